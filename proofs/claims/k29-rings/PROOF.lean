import PyProof.Rows.All
import Wide.All
import OpenK.AllK
import Wide.FinOn
import HandS.ForMost
import HandS.Strs
import HandS.Evl
import HandS.Deep
import HandS.More
import HandS.Rev
import HandS.IsInst
import HandS.StrMore
import HandS.SortInts
import HandS.RaiseMore
import HandS.SetFor
import HandS.ExcInit
import HandS.TryOnly
import HandS.WordsExc
import KE.KExcIs
import KE.KDictPairs
import HandS.DictComp
import HandS.Conv
import HandS.DeepEq
import PyProof.NeKinds
import KE.DataFind
import PySem.Challenge.RW_snakehall_k29_rings
set_option linter.all false
namespace EM
section
variable {α : Type} [DecidableEq α]

/-- t stands in no list behind its first place -/
def free (ls : List (List α)) (t : α) : Bool := !(ls.any fun o => decide (t ∈ o.tail))
def heads (ls : List (List α)) : List α := ls.filterMap List.head?
def nextT (ls : List (List α)) : Option α := (heads ls).find? (free ls)
def dropH (t : α) (l : List α) : List α := if l.head? = some t then l.tail else l
def live (ls : List (List α)) : List (List α) := ls.filter fun l => !l.isEmpty
def tot (ls : List (List α)) : Nat := (ls.map List.length).sum
def mrg : Nat → List (List α) → Option (List α)
  | 0, _ => some []
  | n + 1, ls => if live ls = [] then some [] else match nextT ls with
    | none => none
    | some t => (mrg n (ls.map (dropH t))).map (t :: ·)
def merge (ls : List (List α)) : Option (List α) := mrg (tot ls) ls

/-! ### lists that are empty count for nothing -/
/-! ### what a merge has -/
/-! ### orders -/
def orderBy (t : α) (es : List α) (f : α → Option (List α)) : Option (List α) :=
  if es.Nodup then (es.mapM f).bind fun ls => (merge (ls ++ [es])).map (t :: ·) else none

def ord (E : α → List α) : Nat → α → Option (List α)
  | 0, _ => none
  | n + 1, t => orderBy t (E t) (ord E n)
/-- the order of a title, by a rank that falls to elders -/
def O (E : α → List α) (r : α → Nat) (t : α) : Option (List α) := ord E (r t + 1) t
/-! ### the stack of order_of -/
def lack (E : α → List α) (ks : List α) (t : α) : List α := (E t).filter fun e => !decide (e ∈ ks)
def addK (ks : List α) (t : α) : List α := if t ∈ ks then ks else ks ++ [t]
/-- m steps from here on the stack (its top at the end) is empty; B: its height's bound; ks: what is known; P: what holds then -/
inductive Runs (E : α → List α) (B : Nat) (P : List α → Prop) : Nat → List α → List α → Prop
  | done {ks} (h : P ks) : Runs E B P 0 [] ks
  | push {m w t ks} (hb : (w ++ [t]).length ≤ B) (hl : lack E ks t ≠ []) (h : Runs E B P m (w ++ [t] ++ lack E ks t) ks) : Runs E B P (m + 1) (w ++ [t]) ks
  | pop {m w t ks} (hb : (w ++ [t]).length ≤ B) (hl : lack E ks t = []) (h : Runs E B P m w (addK ks t)) : Runs E B P (m + 1) (w ++ [t]) ks
end
end EM

set_option Elab.async false
set_option linter.all false
set_option maxRecDepth 100000
/-! len(set(xs)), xs a list of texts, any of them alike -/
namespace ST
open PySem PySem.Spec PyProof.Rows
section
variable {κ : Type} [DecidableEq κ]
/-- how many unlike ones are among the first i -/
def cnt (ks : List κ) : Nat → Nat
  | 0 => 0
  | i + 1 => match ks[i]? with
    | none => cnt ks i
    | some k => if k ∈ ks.take i then cnt ks i else cnt ks i + 1
end
section
variable {prog : Program} {w : World} {A : Around} {R : Result → Shared → Prop} {I S : Addr} {fp wr : List Addr} {G : Array GenState → Array GenState → Prop} {n : Nat} {P : Nat → Value → Prop} {St : Nat → Shared → Prop}
  {κ : Type} [DecidableEq κ] {knd : PySem.KeyKind prog w κ}
end
section
variable {prog : Program} {w : World} {A : Around} {E : Value → Shared → Prop} {s : Shared}
end
end ST
namespace L2
open PySem PySem.Spec PyProof.Rows
end L2

set_option Elab.async false
set_option linter.all false
set_option maxRecDepth 100000
namespace EX
open PySem L2 Evl

/-! ### a def with its promise, ready to be called -/
structure Def (P : Program) (w : World) (K : PySem.W.Frag) (mg : Str → Option Value) (base : Heap) (k : Nat) (x : Str) (ps : List Str) (sp : Sp) : Prop where
  ex : ∃ (f : Addr) (fd : FuncData), FnOk P w K mg base CX0 k f fd ps sp ∧ mg x = some (.ref f) ∧ PySem.W.keepIn K (.ref f) = true ∧ Binds K fd ps []
theorem pe_def {X : Cx} {k : Nat} {x : Str} {ps : List Str} {sp : Sp} {p pos : Pos} {e : Expr} {es : List Expr} {t : TA} (h : Def X.prog X.w X.K X.mg X.base k x ps sp) (hr : Room k X.A) (hg : Gl X x) (ha : PA X (e :: es) t)
    (hdb : (x == ("__debug__" : Str)) = false := by decide) (he : starEach (e :: es) X.env = (false, eval e X.env) :: starEach es X.env := by rfl) (hpl : (backTo pos (starEach es X.env)).any (·.1) = false := by rfl) :
    PE X (.Call (.Name x p) (e :: es) [] pos) (tCall sp [] E0 t) := by
  obtain ⟨f, fd, F, m, kp, b⟩ := h.ex
  exact pe_call F hr hg m kp b .nil pass0 ha hdb he hpl
/-! ### rules with the written part named -/
section
variable {X : Cx} {K : PySem.W.Frag}
theorem slL (h : X.K = K := by rfl) : SlR X (rSlL K) := h ▸ sl_list
theorem crAll (hc : X.calm = true := by rfl) (h : X.K = K := by rfl) : CallR X (.builtin "all") (rAll K) := h ▸ cr_all hc
theorem clList (h : X.K = K := by rfl) : CallR X (.type "list") (rListS K) := h ▸ call_list_of
theorem piL {tg l : Expr} {tl : TE} (hl : PE X l tl) (h : X.K = K := by rfl) : PI X tg l (iList K tl) := h ▸ pi_list hl
theorem piT {tg l : Expr} {tl : TE} (hl : PE X l tl) (h : X.K = K := by rfl) : PI X tg l (iTup K tl) := h ▸ pi_tup hl
theorem peBm {o e : Expr} {es : List Expr} {to : TE} {t : TA} {name : Str} {apos cpos : Pos} {T id : String} {r : V → List V → Hp → VK → Prop} (pa : PlainAttrs T) (slot : Slot T name id) (hty : typeOf (.builtin id) = pure (.type "method_descriptor")) (hm : MtR X id r) (ho : PE X o to) (ha : PA X (e :: es) t)
    (hbase : attributeBase o name X.env (eval o X.env) = eval o X.env := by rfl)
    (hfew : ((backTo cpos (starEach (e :: es) X.env)).all (fun x => !x.1) && (backToKw cpos (keywordEach [] X.env)).all (fun x => x.1.isSome)
      && decide ((e :: es).length + ([] : List Keyword).length + (if ([] : List Keyword).isEmpty then 0 else 1) < 30)) = true := by rfl)
    (hline : (apos.endLine == cpos.line) = true := by rfl) (hs : starEach (e :: es) X.env = (false, eval e X.env) :: starEach es X.env := by rfl) (hplain : (backTo cpos (starEach es X.env)).any (·.1) = false := by rfl) (h : X.K = K := by rfl) :
    PE X (.Call (.Attribute o name apos) (e :: es) [] cpos) (tBM K T r to t) := h ▸ pe_bm pa slot hty hm ho ha hbase hfew hline hs hplain
end
section
variable {X : Cx} {K : PySem.W.Frag}
theorem hu65 {k : Nat} {A : Around} (hr : Room k A) : A.units + 65 < cLine := by have := hr.un; omega
end
/-! ### texts among values -/
/-! ### readings that evaluate -/
section
variable {K : PySem.W.Frag} {σ : L2.St} {H H' : Hp} {ta tb te : TE}
end
section
variable {K : PySem.W.Frag} {σ : L2.St} {H H' : Hp} {ta tb te : TE} {D : Ends} {x : V}
end
/-- lists of texts at the addresses that a list holds -/
def Rows (K : PySem.W.Frag) (H : Hp) (ps : List V) (ls : List (List Str)) : Prop :=
  ps.length = ls.length ∧ ∀ (i : Nat) (l : List Str), ls[i]? = some l → ∃ p, ps[i]? = some (.ref p) ∧ SqL K H p (l.map V.str)
theorem Rows.mono {K : PySem.W.Frag} {H H' : Hp} {ps : List V} {ls : List (List Str)} (r : Rows K H ps ls) (e : Ex H H') : Rows K H' ps ls :=
  ⟨r.1, fun i l h => let ⟨p, h1, h2⟩ := r.2 i l h; ⟨p, h1, ex_l e h2⟩⟩
theorem Rows.at {K : PySem.W.Frag} {H : Hp} {ps : List V} {ls : List (List Str)} (r : Rows K H ps ls) {i : Nat} {x : V} (h : ps[i]? = some x) : ∃ p l, x = .ref p ∧ ls[i]? = some l ∧ SqL K H p (l.map V.str) := by
  have hi : i < ls.length := by rw [← r.1]; exact (List.getElem?_eq_some_iff.mp h).1
  obtain ⟨p, h1, h2⟩ := r.2 i ls[i] (List.getElem?_eq_getElem hi)
  rw [h] at h1
  exact ⟨p, ls[i], Option.some.inj h1, List.getElem?_eq_getElem hi, h2⟩
/-! ### more of comprehensions -/
/-- lists at addresses -/
def LAt (H : Hp) (qs : List Addr) (ls : List (List V)) : Prop := qs.length = ls.length ∧ ∀ (i : Nat) (l : List V), ls[i]? = some l → ∃ q, qs[i]? = some q ∧ H q = some (.lst l)
theorem LAt.mono {H H' : Hp} {qs : List Addr} {ls : List (List V)} (r : LAt H qs ls) (e : ∀ q ∈ qs, ∀ o, H q = some o → H' q = some o) : LAt H' qs ls :=
  ⟨r.1, fun i l h => let ⟨q, h1, h2⟩ := r.2 i l h; ⟨q, h1, e q (List.mem_of_getElem? h1) _ h2⟩⟩
theorem LAt.all {H : Hp} {qs : List Addr} {ls : List (List V)} (r : LAt H qs ls) {q : Addr} (h : q ∈ qs) : ∃ l, H q = some (.lst l) := by
  obtain ⟨i, hi, e⟩ := List.getElem_of_mem h
  have hl : i < ls.length := by rw [← r.1]; exact hi
  obtain ⟨q', h1, h2⟩ := r.2 i ls[i] (List.getElem?_eq_getElem hl)
  rw [List.getElem?_eq_getElem hi, e] at h1
  cases h1
  exact ⟨_, h2⟩
theorem LAt.snoc {H : Hp} {qs : List Addr} {ls : List (List V)} {p : Addr} {l : List V} (r : LAt H qs ls) (h : H p = some (.lst l)) : LAt H (qs ++ [p]) (ls ++ [l]) := by
  refine ⟨by simp [r.1], fun i x hx => ?_⟩
  by_cases hi : i < ls.length
  · rw [List.getElem?_append_left hi] at hx
    obtain ⟨q, h1, h2⟩ := r.2 i x hx
    exact ⟨q, by rw [List.getElem?_append_left (by rw [r.1]; exact hi)]; exact h1, h2⟩
  · rw [List.getElem?_append_right (by omega)] at hx
    have h0 : i - ls.length = 0 := by
      cases hz : i - ls.length with
      | zero => rfl
      | succ n => rw [hz] at hx; simp at hx
    rw [h0] at hx
    simp at hx
    subst hx
    refine ⟨p, ?_, h⟩
    rw [List.getElem?_append_right (by rw [r.1]; omega), r.1, h0]
    rfl
/-- new lists, all apart, in a new list -/
structure NewL (H H' : Hp) (D : Addr) (qs : List Addr) (ls : List (List V)) : Prop where
  nD : H D = none
  ex : Ex H H'
  at_ : H' D = some (.lst (qs.map V.ref))
  out : D ∉ qs
  nd : qs.Nodup
  new : ∀ q ∈ qs, H q = none
  rows : LAt H' qs ls
section
variable {K : PySem.W.Frag} {σ : L2.St} {H : Hp} {te tl : TE} {t : TT}
end
/-! ### data: lists of texts, or none -/
def dS (l : List Str) : PyData := .list (l.map .str)
def dO : Option (List Str) → PyData
  | none => .none
  | some l => dS l
section
variable {K : PySem.W.Frag} {H : Hp}
/-- a value that is none or a list of texts -/
def ValO (K : PySem.W.Frag) (H : Hp) (v : V) (r : Option (List Str)) : Prop := match r with
  | none => v = .non
  | some l => ∃ p, v = .ref p ∧ SqL K H p (l.map V.str)
theorem ValO.mono {H' : Hp} {v : V} {r : Option (List Str)} (h : ValO K H v r) (e : Ex H H') : ValO K H' v r := by
  cases r with
  | none => exact h
  | some l =>
    obtain ⟨p, a, b⟩ := h
    exact ⟨p, a, ex_l e b⟩
end
/-! ### dicts, lists: what evaluates -/
section
variable {K : PySem.W.Frag} {σ : L2.St} {H : Hp} {ta tb te td ty : TE} {D : Ends} {tz : TS} {x v : V}
end
/-! ### some value of which P holds -/
section
variable {σ : L2.St} {H : Hp} {ta tb te : TE} {P P1 P2 : V → Prop} {v : V} {r : R2} {D : Ends} {tz : TS}
end
/-! ### one object left out -/
/-! ### rows read: a value and the texts of the list there -/
abbrev VR := V × List Str
def RowsP (K : PySem.W.Frag) (H : Hp) (rs : List VR) : Prop := ∀ r ∈ rs, ∃ p, r.1 = .ref p ∧ SqL K H p (r.2.map V.str)
theorem RowsP.mono {K : PySem.W.Frag} {H H' : Hp} {rs : List VR} (h : RowsP K H rs) (e : Ex H H') : RowsP K H' rs := fun r hr => let ⟨p, a, b⟩ := h r hr; ⟨p, a, ex_l e b⟩
section
variable {K : PySem.W.Frag} {σ : L2.St} {H : Hp} {ta tb te : TE} {x y : V}
end
section
variable {σ : L2.St} {H : Hp} {ta tb te : TE} {r : R2} {D : Ends} {tz : TS} {Q : VK}
end
end EX

set_option Elab.async false
set_option linter.all false
set_option maxRecDepth 100000
/-! draws: a tap (a list of four ints at tp) that each draw changes; a draw is any number in its range -/
namespace EX
open PySem L2 Evl
def Tap (H : Hp) (tp : Addr) : Prop := ∃ a b c d : Int, H tp = some (.lst [.int a, .int b, .int c, .int d])
theorem Tap.mono {H H' : Hp} {tp : Addr} (t : Tap H tp) (e : Ex H H') : Tap H' tp := let ⟨a, b, c, d, h⟩ := t; ⟨a, b, c, d, e _ _ h⟩
/-- te evaluates, drawing, to some value of which P holds; what B knows stays -/
def Dr (tp : Addr) (te : TE) (σ : L2.St) (B : Hp) (P : V → Prop) : Prop := ∀ H1, Ex B H1 → Tap H1 tp → ∀ Q : VK, (∀ v H2, Ex B H2 → Tap H2 tp → P v → Q v H2) → te σ H1 Q
section
variable {tp : Addr} {σ : L2.St} {B H : Hp} {ta tb te : TE} {t u : TT} {P P1 P2 : V → Prop} {v : V} {r : R2} {D : Ends} {tu tw tz : TS}
theorem Dr.imp (h : Dr tp te σ B P) (k : ∀ v, P v → P1 v) : Dr tp te σ B P1 := fun H1 e t Q q => h H1 e t Q fun v H2 e2 t2 p => q v H2 e2 t2 (k v p)
/-! ### statements -/
end
end EX

set_option Elab.async false
set_option linter.all false
set_option maxRecDepth 100000
namespace EX
open PySem L2 Evl
section
variable {tp : Addr} {σ : L2.St} {B H : Hp} {ta tb te : TE} {t u : TT} {P P1 P2 : V → Prop} {v : V} {r : R2} {D : Ends} {tu tw tz : TS} {K : PySem.W.Frag}
theorem ixAt {xs : List V} {p : Addr} {i : Int} {j : Nat} {x : V} (h : H p = some (.lst xs)) (hi : i = (j : Int)) (hx : xs[j]? = some x) : RV (rIxL K) (.ref p) (.int i) H x := rv_ixL (sq_of h) (at_of hi hx)
end
end EX

set_option Elab.async false
set_option linter.all false
set_option maxRecDepth 100000
namespace EX
open PySem L2 Evl
section
variable {tp : Addr} {σ : L2.St} {B H : Hp} {ta tb te : TE} {t u : TT} {P P1 P2 : V → Prop} {v : V} {r : R2} {D : Ends} {tu tw tz : TS} {K : PySem.W.Frag} {sp : Sp} {vs : List V} {E : XK} {tA : TA}
end
end EX

set_option Elab.async false
set_option linter.all false
set_option maxRecDepth 100000
set_option maxHeartbeats 1000000
/-! list(reversed(xs)), xs a list -/
namespace LR
open PySem PySem.Spec PyProof.Rows
section
variable {prog : Program} {w : World} {A : Around} {E : Value → Shared → Prop} {s : Shared}
end
end LR
namespace L2
open PySem PySem.Spec PyProof.Rows
end L2

set_option Elab.async false
set_option linter.all false
set_option maxRecDepth 100000
/-! what the laws on elders share beyond EX and DR -/
namespace EX
open PySem L2 Evl
section
variable {σ : L2.St} {H : Hp} {ta tb te : TE}
end
end EX

set_option Elab.async false
set_option linter.all false
set_option maxRecDepth 100000
/-! the data layer: values as data (what never changes again), a small store of what changes; readings over these alone -/
namespace DL
open PySem L2 Evl EX
inductive D where
  | non | bl (b : Bool) | int (i : Int) | str (x : Str) | list (ds : List D) | tup (ds : List D) | ref (a : Addr) | ty (n : String) | scr (ds : List D)
mutual
/-- a value that reads as data, by what stands fast -/
inductive RdD (K : PySem.W.Frag) (B : Hp) : V → D → Prop
  | non : RdD K B .non .non
  | bl (b : Bool) : RdD K B (.bl b) (.bl b)
  | int (i : Int) : RdD K B (.int i) (.int i)
  | str (x : Str) : RdD K B (.str x) (.str x)
  | ty (n : String) : RdD K B (.ty n) (.ty n)
  | ref (a : Addr) : RdD K B (.ref a) (.ref a)
  | lst {a : Addr} {xs : List V} {ds : List D} : B a = some (.lst xs) → RdL K B xs ds → RdD K B (.ref a) (.list ds)
  | tup {a : Addr} {xs : List V} {ds : List D} : SqT K B a xs → RdL K B xs ds → RdD K B (.ref a) (.tup ds)
  | scr {a : Addr} {xs : List V} {ds : List D} : SqL K B a xs → RdL K B xs ds → RdD K B (.ref a) (.scr ds)
inductive RdL (K : PySem.W.Frag) (B : Hp) : List V → List D → Prop
  | nil : RdL K B [] []
  | cons {v : V} {vs : List V} {d : D} {ds : List D} : RdD K B v d → RdL K B vs ds → RdL K B (v :: vs) (d :: ds)
end
mutual
theorem RdD.mono {K : PySem.W.Frag} {B B' : Hp} (e : Ex B B') : ∀ {v : V} {d : D}, RdD K B v d → RdD K B' v d
  | _, _, .non => .non
  | _, _, .bl b => .bl b
  | _, _, .int i => .int i
  | _, _, .str x => .str x
  | _, _, .ty n => .ty n
  | _, _, .ref a => .ref a
  | _, _, .lst h r => .lst (e _ _ h) (RdL.mono e r)
  | _, _, .tup h r => .tup (ex_t e h) (RdL.mono e r)
  | _, _, .scr h r => .scr (ex_l e h) (RdL.mono e r)
theorem RdL.mono {K : PySem.W.Frag} {B B' : Hp} (e : Ex B B') : ∀ {vs : List V} {ds : List D}, RdL K B vs ds → RdL K B' vs ds
  | _, _, .nil => .nil
  | _, _, .cons h r => .cons (RdD.mono e h) (RdL.mono e r)
end
section
variable {K : PySem.W.Frag} {B : Hp}
theorem RdL.length : ∀ {vs : List V} {ds : List D}, RdL K B vs ds → vs.length = ds.length
  | _, _, .nil => rfl
  | _, _, .cons _ r => by rw [List.length_cons, List.length_cons, r.length]
theorem RdL.get : ∀ {vs : List V} {ds : List D} {i : Nat} {d : D}, RdL K B vs ds → ds[i]? = some d → ∃ v, vs[i]? = some v ∧ RdD K B v d
  | _, _, _, _, .nil, h => by simp at h
  | _, _, 0, _, .cons h _, e => by simp at e; subst e; exact ⟨_, rfl, h⟩
  | _, _, i + 1, _, .cons _ r, e => by
    obtain ⟨v, a, b⟩ := r.get (i := i) (by simpa using e)
    exact ⟨v, by simpa using a, b⟩
theorem RdL.getV : ∀ {vs : List V} {ds : List D} {i : Nat} {v : V}, RdL K B vs ds → vs[i]? = some v → ∃ d, ds[i]? = some d ∧ RdD K B v d
  | _, _, _, _, .nil, h => by simp at h
  | _, _, 0, _, .cons h _, e => by simp at e; subst e; exact ⟨_, rfl, h⟩
  | _, _, i + 1, _, .cons _ r, e => by
    obtain ⟨v, a, b⟩ := r.getV (i := i) (by simpa using e)
    exact ⟨v, by simpa using a, b⟩
theorem RdL.append : ∀ {vs ws : List V} {ds es : List D}, RdL K B vs ds → RdL K B ws es → RdL K B (vs ++ ws) (ds ++ es)
  | _, _, _, _, .nil, s => s
  | _, _, _, _, .cons h r, s => .cons h (r.append s)
theorem RdL.take : ∀ {vs : List V} {ds : List D} (n : Nat), RdL K B vs ds → RdL K B (vs.take n) (ds.take n)
  | _, _, 0, _ => .nil
  | _, _, _ + 1, .nil => .nil
  | _, _, n + 1, .cons h r => .cons h (r.take n)
theorem RdL.drop : ∀ {vs : List V} {ds : List D} (n : Nat), RdL K B vs ds → RdL K B (vs.drop n) (ds.drop n)
  | _, _, 0, r => r
  | _, _, _ + 1, .nil => .nil
  | _, _, n + 1, .cons _ r => r.drop n
theorem RdL.set {v : V} {d : D} (h : RdD K B v d) : ∀ {vs : List V} {ds : List D} (n : Nat), RdL K B vs ds → RdL K B (vs.set n v) (ds.set n d)
  | _, _, _, .nil => .nil
  | _, _, 0, .cons _ r => .cons h r
  | _, _, n + 1, .cons q r => .cons q (r.set h n)
theorem RdL.one {v : V} {d : D} (h : RdD K B v d) : RdL K B [v] [d] := .cons h .nil
theorem rd_int {v : V} {i : Int} (h : RdD K B v (.int i)) : v = .int i := by cases h; rfl
theorem rd_bl {v : V} {b : Bool} (h : RdD K B v (.bl b)) : v = .bl b := by cases h; rfl
theorem rd_str {v : V} {x : Str} (h : RdD K B v (.str x)) : v = .str x := by cases h; rfl
theorem rd_non {v : V} (h : RdD K B v .non) : v = .non := by cases h; rfl
theorem rd_ref {v : V} {a : Addr} (h : RdD K B v (.ref a)) : v = .ref a := by cases h; rfl
theorem rd_list {v : V} {ds : List D} (h : RdD K B v (.list ds)) : ∃ a xs, v = .ref a ∧ B a = some (.lst xs) ∧ RdL K B xs ds := by
  cases h with
  | lst h r => exact ⟨_, _, rfl, h, r⟩
theorem rd_tup {v : V} {ds : List D} (h : RdD K B v (.tup ds)) : ∃ a xs, v = .ref a ∧ SqT K B a xs ∧ RdL K B xs ds := by
  cases h with
  | tup h r => exact ⟨_, _, rfl, h, r⟩
theorem rd_scr {v : V} {ds : List D} (h : RdD K B v (.scr ds)) : ∃ a xs, v = .ref a ∧ SqL K B a xs ∧ RdL K B xs ds := by
  cases h with
  | scr h r => exact ⟨_, _, rfl, h, r⟩
theorem rdl_ints : ∀ ns : List Int, RdL K B (ns.map V.int) (ns.map D.int)
  | [] => .nil
  | n :: ns => .cons (.int n) (rdl_ints ns)
end
/-! ### the store -/
inductive O where
  | lst (ds : List D) | dct (kvs : List (Key × D)) | ins (C dx : Addr) (fs : List (Str × D)) | tap | lck (od : Obj) (xs : List (Key × V)) (kvs : List (Key × D)) | xd (fs : List (Str × D))
abbrev Sto := Addr → Option O
/-- a dict that may be read, locked or not -/
def DctAt (S : Sto) (a : Addr) (kvs : List (Key × D)) : Prop := S a = some (.dct kvs) ∨ ∃ od xs, S a = some (.lck od xs kvs)
def put (S : Sto) (a : Addr) (o : O) : Sto := fun b => if b = a then some o else S b
def del (S : Sto) (a : Addr) : Sto := fun b => if b = a then none else S b
theorem put_same {S : Sto} {a : Addr} {o : O} : put S a o a = some o := by unfold put; rw [if_pos rfl]
theorem put_ne {S : Sto} {a b : Addr} {o : O} (h : b ≠ a) : put S a o b = S b := by unfold put; rw [if_neg h]
theorem del_same {S : Sto} {a : Addr} : del S a a = none := by unfold del; rw [if_pos rfl]
theorem del_ne {S : Sto} {a b : Addr} (h : b ≠ a) : del S a b = S b := by unfold del; rw [if_neg h]
theorem put_put {S : Sto} {a : Addr} {o u : O} : put (put S a o) a u = put S a u := by funext b; unfold put; split <;> rfl
theorem del_put {S : Sto} {a : Addr} {o : O} (h : S a = none) : del (put S a o) a = S := by
  funext b; unfold del put
  split
  · rename_i e; rw [e, h]
  · rfl
theorem put_self {S : Sto} {a : Addr} {o : O} (h : S a = some o) : put S a o = S := by
  funext b; unfold put
  split
  · rename_i e; rw [e, h]
  · rfl
theorem put_comm {S : Sto} {a b : Addr} {o u : O} (h : a ≠ b) : put (put S a o) b u = put (put S b u) a o := by
  funext c; unfold put
  by_cases h1 : c = a
  · by_cases h2 : c = b
    · exact absurd (h1.symm.trans h2) h
    · rw [if_neg h2, if_pos h1, if_pos h1]
  · by_cases h2 : c = b
    · rw [if_pos h2, if_neg h1, if_pos h2]
    · rw [if_neg h2, if_neg h1, if_neg h1, if_neg h2]
theorem sto_ne {S : Sto} {a b : Addr} {o : O} (h : S a = some o) (n : S b = none) : a ≠ b := fun e => by rw [e, n] at h; cases h
def RdKV {κ : Type} (K : PySem.W.Frag) (B : Hp) : List (κ × V) → List (κ × D) → Prop := Paired fun p q => p.1 = q.1 ∧ RdD K B p.2 q.2
theorem RdKV.mono {κ : Type} {K : PySem.W.Frag} {B B' : Hp} (e : Ex B B') {l : List (κ × V)} {m : List (κ × D)} (h : RdKV K B l m) : RdKV K B' l m := Paired.mapP h fun _ _ r => ⟨r.1, r.2.mono e⟩
inductive RdO (K : PySem.W.Frag) (B : Hp) : HO → O → Prop
  | lst {xs : List V} {ds : List D} : RdL K B xs ds → RdO K B (.lst xs) (.lst ds)
  | dct {kvs : List (Key × V)} {dvs : List (Key × D)} : RdKV K B kvs dvs → RdO K B (.dK kvs) (.dct dvs)
  | ins {C dx : Addr} {fs : List (Str × V)} {gs : List (Str × D)} : RdKV K B fs gs → RdO K B (.ins C dx fs) (.ins C dx gs)
  | tap (a b c d : Int) : RdO K B (.lst [.int a, .int b, .int c, .int d]) .tap
  | lck {od : Obj} {xs : List (Key × V)} {kvs : List (Key × D)} : RdKV K B xs kvs → RdO K B (.frz od (.dK xs)) (.lck od xs kvs)
  | xd {fs : List (Str × V)} {gs : List (Str × D)} : RdKV K B fs gs → RdO K B (.xd fs) (.xd gs)
theorem RdO.mono {K : PySem.W.Frag} {B B' : Hp} (e : Ex B B') {h : HO} {o : O} (r : RdO K B h o) : RdO K B' h o := by
  cases r with
  | lst r => exact .lst (r.mono e)
  | dct r => exact .dct (r.mono e)
  | ins r => exact .ins (r.mono e)
  | tap a b c d => exact .tap a b c d
  | lck r => exact .lck (r.mono e)
  | xd r => exact .xd (r.mono e)
/-- B stands fast, S is what changes, H is both -/
structure R (K : PySem.W.Frag) (B : Hp) (S : Sto) (H : Hp) : Prop where
  ex : Ex B H
  own : ∀ a o, S a = some o → B a = none ∧ ∃ ho, H a = some ho ∧ RdO K B ho o
section
variable {K : PySem.W.Frag} {B H : Hp} {S : Sto}
theorem R.fresh (r : R K B S H) {p : Addr} (h : H p = none) : B p = none ∧ S p = none := by
  refine ⟨fresh_back r.ex h, ?_⟩
  cases e : S p with
  | none => rfl
  | some o =>
    obtain ⟨_, ho, e2, _⟩ := r.own p o e
    rw [h] at e2
    cases e2
/-- a new thing that stands fast -/
theorem R.new (r : R K B S H) {p : Addr} {o : HO} (h : H p = none) : R K (upd B p o) S (upd H p o) ∧ Ex B (upd B p o) := by
  have hb := (r.fresh h).1
  refine ⟨⟨fun a u e => ?_, fun a u e => ?_⟩, Ex.new hb⟩
  · by_cases z : a = p
    · subst z; rw [upd_same] at e ⊢; exact e
    · rw [upd_ne z] at e ⊢; exact r.ex a u e
  · obtain ⟨n, ho, h1, h2⟩ := r.own a u e
    have z : a ≠ p := fun z => by rw [z, h] at h1; cases h1
    exact ⟨by rw [upd_ne z]; exact n, ho, by rw [upd_ne z]; exact h1, h2.mono (Ex.new hb)⟩
/-- a new thing that may change -/
theorem R.newS (r : R K B S H) {p : Addr} {ho : HO} {o : O} (h : H p = none) (ro : RdO K B ho o) : R K B (put S p o) (upd H p ho) := by
  have hb := (r.fresh h).1
  refine ⟨r.ex.trans (Ex.new h), fun a u e => ?_⟩
  by_cases z : a = p
  · subst z; rw [put_same] at e; cases e; exact ⟨hb, ho, upd_same, ro⟩
  · rw [put_ne z] at e
    obtain ⟨n, ho', h1, h2⟩ := r.own a u e
    exact ⟨n, ho', by rw [upd_ne z]; exact h1, h2⟩
/-- a thing of the store changes -/
theorem R.mut (r : R K B S H) {p : Addr} {ho : HO} {o u : O} (h : S p = some u) (ro : RdO K B ho o) : R K B (put S p o) (upd H p ho) := by
  have hb := (r.own p u h).1
  refine ⟨r.ex.mut hb, fun a v e => ?_⟩
  by_cases z : a = p
  · subst z; rw [put_same] at e; cases e; exact ⟨hb, ho, upd_same, ro⟩
  · rw [put_ne z] at e
    obtain ⟨n, ho', h1, h2⟩ := r.own a v e
    exact ⟨n, ho', by rw [upd_ne z]; exact h1, h2⟩
/-- a list of the store stands fast from now on -/
theorem R.freeze (r : R K B S H) {p : Addr} {ds : List D} (h : S p = some (.lst ds)) : ∃ B', Ex B B' ∧ R K B' (del S p) H ∧ RdD K B' (.ref p) (.list ds) := by
  obtain ⟨hb, ho, h1, h2⟩ := r.own p _ h
  cases h2 with
  | lst rl =>
    rename_i xs
    have e : Ex B (upd B p (.lst xs)) := Ex.new hb
    refine ⟨_, e, ⟨fun a u q => ?_, fun a u q => ?_⟩, .lst upd_same (rl.mono e)⟩
    · by_cases z : a = p
      · subst z; rw [upd_same] at q; cases q; exact h1
      · rw [upd_ne z] at q; exact r.ex a u q
    · by_cases z : a = p
      · subst z; rw [del_same] at q; cases q
      · rw [del_ne z] at q
        obtain ⟨n, ho', h3, h4⟩ := r.own a u q
        exact ⟨by rw [upd_ne z]; exact n, ho', h3, h4.mono e⟩
theorem R.lst (r : R K B S H) {p : Addr} {ds : List D} (h : S p = some (.lst ds)) : ∃ xs, H p = some (.lst xs) ∧ RdL K B xs ds := by
  obtain ⟨_, ho, h1, h2⟩ := r.own p _ h
  cases h2 with
  | lst rl => exact ⟨_, h1, rl⟩
theorem R.dct (r : R K B S H) {p : Addr} {ds : List (Key × D)} (h : S p = some (.dct ds)) : ∃ xs, H p = some (.dK xs) ∧ RdKV K B xs ds := by
  obtain ⟨_, ho, h1, h2⟩ := r.own p _ h
  cases h2 with
  | dct rl => exact ⟨_, h1, rl⟩
theorem R.lck (r : R K B S H) {p : Addr} {od : Obj} {xs : List (Key × V)} {ds : List (Key × D)} (h : S p = some (.lck od xs ds)) : H p = some (.frz od (.dK xs)) ∧ RdKV K B xs ds := by
  obtain ⟨_, ho, h1, h2⟩ := r.own p _ h
  cases h2 with
  | lck rl => exact ⟨h1, rl⟩
theorem R.dctR (r : R K B S H) {p : Addr} {ds : List (Key × D)} (h : DctAt S p ds) : ∃ xs, Rd H p (.dK xs) ∧ RdKV K B xs ds := by
  rcases h with h | ⟨od, xs, h⟩
  · obtain ⟨xs, h1, h2⟩ := r.dct h
    exact ⟨xs, .inl h1, h2⟩
  · obtain ⟨h1, h2⟩ := r.lck h
    exact ⟨xs, .inr ⟨od, h1⟩, h2⟩
theorem R.ins (r : R K B S H) {p C dx : Addr} {ds : List (Str × D)} (h : S p = some (.ins C dx ds)) : ∃ xs, H p = some (.ins C dx xs) ∧ RdKV K B xs ds := by
  obtain ⟨_, ho, h1, h2⟩ := r.own p _ h
  cases h2 with
  | ins rl => exact ⟨_, h1, rl⟩
end
/-! ### slots, wishes, readings -/
abbrev Dst := List (Option D)
abbrev DK := D → Sto → Prop
abbrev DE := Dst → Sto → DK → Prop
abbrev DT := Dst → Sto → (Bool → Sto → Prop) → Prop
abbrev DA := Dst → Sto → (List D → Sto → Prop) → Prop
structure DEnds where
  nx : Dst → Sto → Prop
  rt : DK
  bk : Dst → Sto → Prop := fun _ _ => False
  ct : Dst → Sto → Prop := fun _ _ => False
  xx : Value → Option Addr → Dst → Sto → Prop := fun _ _ _ _ => False
abbrev DS := DEnds → Dst → Sto → Prop
abbrev XDK := Value → Option Addr → Sto → Prop
/-- what is wished of an exception -/
abbrev WXD := Value → Option Addr → L2.St → Hp → Prop
abbrev SpD := List D → Sto → DK → XDK → Prop
structure Sl (K : PySem.W.Frag) (B : Hp) (σ : L2.St) (δ : Dst) : Prop where
  len : σ.length = δ.length
  at_ : ∀ (i : Nat) (d : D), δ[i]? = some (some d) → ∃ v, σ[i]? = some (some v) ∧ RdD K B v d
section
variable {K : PySem.W.Frag} {B B' H : Hp} {S : Sto} {σ : L2.St} {δ : Dst}
theorem Sl.mono (s : Sl K B σ δ) (e : Ex B B') : Sl K B' σ δ := ⟨s.len, fun i d h => let ⟨v, a, b⟩ := s.at_ i d h; ⟨v, a, b.mono e⟩⟩
theorem Sl.set (s : Sl K B σ δ) {v : V} {d : D} (h : RdD K B v d) (i : Nat) : Sl K B (σ.set i (some v)) (δ.set i (some d)) := by
  refine ⟨by simp [s.len], fun j x e => ?_⟩
  by_cases z : i = j
  · subst z
    by_cases hl : i < δ.length
    · rw [List.getElem?_set_self hl] at e
      cases e
      exact ⟨v, List.getElem?_set_self (by rw [s.len]; exact hl), h⟩
    · rw [List.getElem?_eq_none (by simpa using hl)] at e
      cases e
  · rw [List.getElem?_set_ne z] at e ⊢
    exact s.at_ j x e
end
/-- readings over data, as readings of the layer -/
def lE (K : PySem.W.Frag) (d : DE) : TE := fun σ H Q => ∃ B δ S k, Sl K B σ δ ∧ R K B S H ∧ d δ S k ∧ ∀ x S' v B' H', k x S' → Ex B B' → R K B' S' H' → RdD K B' v x → Q v H'
def lT (K : PySem.W.Frag) (d : DT) : TT := fun σ H Q => ∃ B δ S k, Sl K B σ δ ∧ R K B S H ∧ d δ S k ∧ ∀ b S' B' H', k b S' → Ex B B' → R K B' S' H' → Q b H'
def lA (K : PySem.W.Frag) (d : DA) : TA := fun σ H Q => ∃ B δ S k, Sl K B σ δ ∧ R K B S H ∧ d δ S k ∧ ∀ xs S' vs B' H', k xs S' → Ex B B' → R K B' S' H' → RdL K B' vs xs → Q vs H'
structure lD (K : PySem.W.Frag) (W : WXD) (B : Hp) (D : DEnds) (E : Ends) : Prop where
  nx : ∀ δ S σ B' H', D.nx δ S → Ex B B' → Sl K B' σ δ → R K B' S H' → E.nx σ H'
  rt : ∀ x S v B' H', D.rt x S → Ex B B' → R K B' S H' → RdD K B' v x → E.rt v H'
  bk : ∀ δ S σ B' H', D.bk δ S → Ex B B' → Sl K B' σ δ → R K B' S H' → E.bk σ H'
  ct : ∀ δ S σ B' H', D.ct δ S → Ex B B' → Sl K B' σ δ → R K B' S H' → E.ct σ H'
  xx : ∀ c od δ S σ B' H', D.xx c od δ S → Ex B B' → Sl K B' σ δ → R K B' S H' → W c od σ H'
def lS (K : PySem.W.Frag) (W : WXD) (d : DS) : TS := fun E σ H => ∃ B δ S D, Sl K B σ δ ∧ R K B S H ∧ d D δ S ∧ lD K W B D E
theorem lD.mono {K : PySem.W.Frag} {W : WXD} {B B' : Hp} {D : DEnds} {E : Ends} (h : lD K W B D E) (e : Ex B B') : lD K W B' D E :=
  ⟨fun δ S σ B2 H k e2 => h.nx δ S σ B2 H k (e.trans e2), fun x S v B2 H k e2 => h.rt x S v B2 H k (e.trans e2), fun δ S σ B2 H k e2 => h.bk δ S σ B2 H k (e.trans e2), fun δ S σ B2 H k e2 => h.ct δ S σ B2 H k (e.trans e2), fun c od δ S σ B2 H k e2 => h.xx c od δ S σ B2 H k (e.trans e2)⟩
def lSp (K : PySem.W.Frag) (f : SpD) : Sp := fun vs H Q E => ∃ B ds S k kx, RdL K B vs ds ∧ R K B S H ∧ f ds S k kx ∧ (∀ x S' v B' H', k x S' → Ex B B' → R K B' S' H' → RdD K B' v x → Q v H') ∧
  ∀ c od S' B' H', kx c od S' → Ex B B' → R K B' S' H' → E c od H'
/-! ### the judgements, weakened -/
section
variable {X : Cx}
theorem peOf {e : Expr} {t u : TE} (h : PE X e t) (k : ∀ σ H Q, u σ H Q → t σ H Q) : PE X e u := ⟨fun pins s σ H Q I q => h.run pins s σ H Q I (k σ H Q q)⟩
theorem ptOf {e : Expr} {t u : TT} (h : PT X e t) (k : ∀ σ H Q, u σ H Q → t σ H Q) : PT X e u := ⟨fun pins s σ H Q I q => h.run pins s σ H Q I (k σ H Q q)⟩
theorem pwOf {e : Expr} {t u : TT} (h : PW X e t) (k : ∀ σ H Q, u σ H Q → t σ H Q) : PW X e u := ⟨fun wh pins s σ H Q I q => h.run wh pins s σ H Q I (k σ H Q q)⟩
theorem paOf {e : List Expr} {t u : TA} (h : PA X e t) (k : ∀ σ H Q, u σ H Q → t σ H Q) : PA X e u := ⟨fun pos pins s σ H Q I q => h.run pos pins s σ H Q I (k σ H Q q)⟩
theorem psOf {st : Stmt} {t u : TS} (h : PS X st t) (k : ∀ D σ H, u D σ H → t D σ H) : PS X st u := ⟨fun pins s σ H D I q => h.run pins s σ H D I (k D σ H q)⟩
theorem pssOf {st : List Stmt} {t u : TS} (h : PSs X st t) (k : ∀ D σ H, u D σ H → t D σ H) : PSs X st u := ⟨fun pins s σ H D I q => h.run pins s σ H D I (k D σ H q)⟩
theorem pgOf {tg : Expr} {t u : TG} (h : PG X tg t) (k : ∀ v σ H Q, u v σ H Q → t v σ H Q) : PG X tg u := by
  obtain ⟨r⟩ := h
  exact ⟨fun pins s σ H v w Q I rv q => r pins s σ H v w Q I rv (k v σ H Q q)⟩
end
end DL

set_option Elab.async false
set_option linter.all false
set_option maxRecDepth 100000
namespace DL
open PySem L2 Evl EX
/-! ### expressions -/
section
variable {X : Cx} {K : PySem.W.Frag}
def dVar (i : Nat) : DE := fun δ S k => match δ[i]? with
  | some (some d) => k d S
  | _ => False
theorem de_var (i : Nat) {x : Str} {pos : Pos} (hN : X.N[i]? = some x := by rfl) (hv : Vis X.env.scope x := by first | exact Or.inl rfl | exact Or.inr (Or.inl rfl) | exact Or.inr (Or.inr rfl)) (hd : (x == ("__debug__" : Str)) = false := by decide)
    (hcd : (x == ("__classdict__" : Str)) = false := by decide) : PE X (.Name x pos) (lE K (dVar i)) := peOf (pv i hN hv hd hcd) fun σ H Q ⟨B, δ, S, k, s, r, h, q⟩ => by
  unfold dVar at h
  split at h
  · rename_i d e
    obtain ⟨v, hv, rv⟩ := s.at_ i d e
    exact ⟨v, hv, q d S v B H h (Ex.refl B) r rv⟩
  · exact h.elim
/-- a list of the store, read for good -/
def dFrz (i : Nat) : DE := fun δ S k => match δ[i]? with
  | some (some (.ref a)) => ∃ ds, S a = some (.lst ds) ∧ k (.list ds) (del S a)
  | _ => False
theorem de_frz (i : Nat) {x : Str} {pos : Pos} (hN : X.N[i]? = some x := by rfl) (hv : Vis X.env.scope x := by first | exact Or.inl rfl | exact Or.inr (Or.inl rfl) | exact Or.inr (Or.inr rfl)) (hd : (x == ("__debug__" : Str)) = false := by decide)
    (hcd : (x == ("__classdict__" : Str)) = false := by decide) : PE X (.Name x pos) (lE K (dFrz i)) := peOf (pv i hN hv hd hcd) fun σ H Q ⟨B, δ, S, k, s, r, h, q⟩ => by
  unfold dFrz at h
  split at h
  · rename_i a e
    obtain ⟨v, hv, rv⟩ := s.at_ i _ e
    obtain ⟨ds, hs, h⟩ := h
    obtain ⟨B', e', r', rd⟩ := r.freeze hs
    rw [rd_ref rv] at hv
    exact ⟨_, hv, q _ _ _ B' H h e' r' rd⟩
  · exact h.elim
def dC (d : D) : DE := fun _ S k => k d S
theorem de_c {e : Expr} {v : V} {d : D} (h : PE X e (tC v)) (hd : ∀ B, RdD K B v d) : PE X e (lE K (dC d)) := peOf h fun σ H Q ⟨B, δ, S, k, s, r, h, q⟩ => q d S v B H h (Ex.refl B) r (hd B)
theorem de_int {i j pos} : PE X (.Constant (.int i) j pos) (lE K (dC (.int i))) := de_c pe_int fun _ => .int i
theorem de_bl {b j pos} : PE X (.Constant (.bool b) j pos) (lE K (dC (.bl b))) := de_c pe_bl fun _ => .bl b
theorem de_non {j pos} : PE X (.Constant .none j pos) (lE K (dC .non)) := de_c pe_non fun _ => .non
theorem de_str {x j pos} : PE X (.Constant (.str x) j pos) (lE K (dC (.str x))) := de_c pe_str fun _ => .str x
/-- a constant of the module -/
def GlD (K : PySem.W.Frag) (mg : Str → Option Value) (x : Str) (d : D) : Prop := ∃ v u, mg x = some u ∧ RelV v u ∧ ∀ B, RdD K B v d
theorem de_gl {x : Str} {d : D} {pos : Pos} (hg : Gl X x) (h : GlD K X.mg x d) (hd : (x == ("__debug__" : Str)) = false := by decide) : PE X (.Name x pos) (lE K (dC d)) := by
  obtain ⟨v, u, hm, r, hb⟩ := h
  exact de_c (pe_glob hg hm r hd) hb
/-! two operands -/
abbrev DR2 := D → D → Sto → DK → Prop
def dOp (rd : DR2) (da db : DE) : DE := fun δ S k => da δ S fun x S1 => db δ S1 fun y S2 => rd x y S2 k
def Sim2 (K : PySem.W.Frag) (r : R2) (rd : DR2) : Prop := ∀ (B : Hp) (S : Sto) (H : Hp) (v w : V) (x y : D) (k : DK) (Q : VK), R K B S H → RdD K B v x → RdD K B w y → rd x y S k →
  (∀ z S' u B' H', k z S' → Ex B B' → R K B' S' H' → RdD K B' u z → Q u H') → r v w H Q
theorem l_op {r : R2} {rd : DR2} {da db : DE} (hs : Sim2 K r rd) (σ : L2.St) (H : Hp) (Q : VK) : lE K (dOp rd da db) σ H Q → tOp r (lE K da) (lE K db) σ H Q := fun ⟨B, δ, S, k, s, r, h, q⟩ =>
  ⟨B, δ, S, _, s, r, h, fun x S1 v B1 H1 h1 e1 r1 d1 => ⟨B1, δ, S1, _, s.mono e1, r1, h1, fun y S2 w B2 H2 h2 e2 r2 d2 => hs B2 S2 H2 v w x y k Q r2 (d1.mono e2) d2 h2 fun z S' u B' H' hk e' r' d' => q z S' u B' H' hk (e1.trans (e2.trans e')) r' d'⟩⟩
theorem de_op {op : Operator} {r : R2} {rd : DR2} {a b : Expr} {da db : DE} {pos : Pos} (ho : OpR X (binaryOp op) r) (hs : Sim2 K r rd) (ha : PE X a (lE K da)) (hb : PE X b (lE K db)) : PE X (.BinOp a op b pos) (lE K (dOp rd da db)) := peOf (pe_op ho ha hb) (l_op hs)
theorem de_cmp {op : CmpOp} {r : R2} {rd : DR2} {a b : Expr} {da db : DE} {pos : Pos} (ho : OpR X (compareOp op) r) (hs : Sim2 K r rd) (ha : PE X a (lE K da)) (hb : PE X b (lE K db)) (hm : behindInMarks op b = false) : PE X (.Compare a [op] [b] pos) (lE K (dOp rd da db)) := peOf (pe_cmpR ho ha hb hm) (l_op hs)
theorem de_ix {r : R2} {rd : DR2} {a b : Expr} {da db : DE} {pos : Pos} (ho : IxR X r) (hs : Sim2 K r rd) (ha : PE X a (lE K da)) (hb : PE X b (lE K db)) (hp : PlainIx b) : PE X (.Subscript a b pos) (lE K (dOp rd da db)) := peOf (pe_ix ho ha hb hp) (l_op hs)
/-! tests -/
def dTest (de : DE) : DT := fun δ S k => de δ S fun x S1 => match x with
  | .bl b => k b S1
  | _ => False
theorem l_test {de : DE} (σ : L2.St) (H : Hp) (Q : Bool → Hp → Prop) : lT K (dTest de) σ H Q → lE K de σ H fun x H' => ∃ b, x = .bl b ∧ Q b H' := fun ⟨B, δ, S, k, s, r, h, q⟩ => ⟨B, δ, S, _, s, r, h, fun x S1 v B1 H1 h1 e1 r1 d1 => by
  split at h1
  · rename_i b
    exact ⟨b, rd_bl d1, q b S1 B1 H1 h1 e1 r1⟩
  · exact h1.elim⟩
theorem dt_cmp {op : CmpOp} {r : R2} {rd : DR2} {a b : Expr} {da db : DE} {pos : Pos} (ho : OpR X (compareOp op) r) (hs : Sim2 K r rd) (ha : PE X a (lE K da)) (hb : PE X b (lE K db)) (hm : behindInMarks op b = false) : PT X (.Compare a [op] [b] pos) (lT K (dTest (dOp rd da db))) :=
  ptOf (pt_cmpR ho ha hb hm) fun σ H Q h => by
    obtain ⟨B, δ, S, k, s, r', h, q⟩ := l_test σ H Q h
    exact l_op hs σ H _ ⟨B, δ, S, k, s, r', h, q⟩
theorem dt_val {e : Expr} {de : DE} (h : PE X e (lE K de)) (he : ∀ whole, isTrue e X.env whole = (do let v ← whole; standAt e.pos; holding [v] (truthy v)) := by intro _; rfl) : PT X e (lT K (dTest de)) := ptOf (pt_val h he) l_test
def dAnd (t u : DT) : DT := fun δ S k => t δ S fun c S1 => if c = true then u δ S1 k else k false S1
def dOr (t u : DT) : DT := fun δ S k => t δ S fun c S1 => if c = true then k true S1 else u δ S1 k
def dNot (t : DT) : DT := fun δ S k => t δ S fun c S1 => k (!c) S1
section
variable {a b : Expr} {rest : List Expr} {pos : Pos} {t u : DT}
theorem dw_and1 (h : PT X a (lT K t)) : PW X (.BoolOp .And [a] pos) (lT K t) := pw_and1 h
theorem dw_or1 (h : PT X a (lT K t)) : PW X (.BoolOp .Or [a] pos) (lT K t) := pw_or1 h
theorem dw_and (ha : PT X a (lT K t)) (hb : PW X (.BoolOp .And (b :: rest) pos) (lT K u)) : PW X (.BoolOp .And (a :: b :: rest) pos) (lT K (dAnd t u)) := pwOf (pw_and ha hb) fun σ H Q ⟨B, δ, S, k, s, r, h, q⟩ =>
  ⟨B, δ, S, _, s, r, h, fun c S1 B1 H1 h1 e1 r1 => by
    cases c with
    | true => exact ⟨B1, δ, S1, k, s.mono e1, r1, h1, fun c S2 B2 H2 h2 e2 r2 => q c S2 B2 H2 h2 (e1.trans e2) r2⟩
    | false => exact q false S1 B1 H1 h1 e1 r1⟩
theorem dw_or (ha : PT X a (lT K t)) (hb : PW X (.BoolOp .Or (b :: rest) pos) (lT K u)) : PW X (.BoolOp .Or (a :: b :: rest) pos) (lT K (dOr t u)) := pwOf (pw_or ha hb) fun σ H Q ⟨B, δ, S, k, s, r, h, q⟩ =>
  ⟨B, δ, S, _, s, r, h, fun c S1 B1 H1 h1 e1 r1 => by
    cases c with
    | true => exact q true S1 B1 H1 h1 e1 r1
    | false => exact ⟨B1, δ, S1, k, s.mono e1, r1, h1, fun c S2 B2 H2 h2 e2 r2 => q c S2 B2 H2 h2 (e1.trans e2) r2⟩⟩
theorem dt_not (ha : PT X a (lT K t)) : PT X (.UnaryOp .Not a pos) (lT K (dNot t)) := ptOf (pt_not ha) fun σ H Q ⟨B, δ, S, k, s, r, h, q⟩ =>
  ⟨B, δ, S, _, s, r, h, fun c S1 B1 H1 h1 e1 r1 => q (!c) S1 B1 H1 h1 e1 r1⟩
def dAndV (da db : DE) : DE := fun δ S k => da δ S fun x S1 => match x with
  | .bl c => if c = true then db δ S1 k else k (.bl false) S1
  | _ => False
def dOrV (da db : DE) : DE := fun δ S k => da δ S fun x S1 => match x with
  | .bl c => if c = true then k (.bl true) S1 else db δ S1 k
  | _ => False
def dNotV (da : DE) : DE := fun δ S k => da δ S fun x S1 => match x with
  | .bl c => k (.bl (!c)) S1
  | _ => False
variable {da db : DE}
theorem de_one {op} {t : DE} (h : PE X a (lE K t)) : PE X (.BoolOp op [a] pos) (lE K t) := pe_one h
theorem de_and (ha : PE X a (lE K da)) (hb : PE X (.BoolOp .And (b :: rest) pos) (lE K db)) : PE X (.BoolOp .And (a :: b :: rest) pos) (lE K (dAndV da db)) := peOf (pe_and ha hb) fun σ H Q ⟨B, δ, S, k, s, r, h, q⟩ =>
  ⟨B, δ, S, _, s, r, h, fun x S1 v B1 H1 h1 e1 r1 d1 => by
    split at h1
    · rename_i c
      refine ⟨c, rd_bl d1, ?_⟩
      cases c with
      | true => exact ⟨B1, δ, S1, k, s.mono e1, r1, h1, fun c S2 w B2 H2 h2 e2 r2 d2 => q c S2 w B2 H2 h2 (e1.trans e2) r2 d2⟩
      | false => exact q _ S1 _ B1 H1 h1 e1 r1 (.bl false)
    · exact h1.elim⟩
theorem de_or (ha : PE X a (lE K da)) (hb : PE X (.BoolOp .Or (b :: rest) pos) (lE K db)) : PE X (.BoolOp .Or (a :: b :: rest) pos) (lE K (dOrV da db)) := peOf (pe_or ha hb) fun σ H Q ⟨B, δ, S, k, s, r, h, q⟩ =>
  ⟨B, δ, S, _, s, r, h, fun x S1 v B1 H1 h1 e1 r1 d1 => by
    split at h1
    · rename_i c
      refine ⟨c, rd_bl d1, ?_⟩
      cases c with
      | true => exact q _ S1 _ B1 H1 h1 e1 r1 (.bl true)
      | false => exact ⟨B1, δ, S1, k, s.mono e1, r1, h1, fun c S2 w B2 H2 h2 e2 r2 d2 => q c S2 w B2 H2 h2 (e1.trans e2) r2 d2⟩
    · exact h1.elim⟩
theorem de_not (ha : PE X a (lE K da)) : PE X (.UnaryOp .Not a pos) (lE K (dNotV da)) := peOf (pe_not ha) fun σ H Q ⟨B, δ, S, k, s, r, h, q⟩ =>
  ⟨B, δ, S, _, s, r, h, fun x S1 v B1 H1 h1 e1 r1 d1 => by
    split at h1
    · rename_i c
      exact ⟨c, rd_bl d1, q _ S1 _ B1 H1 h1 e1 r1 (.bl _)⟩
    · exact h1.elim⟩
def dIf (t : DT) (da db : DE) : DE := fun δ S k => t δ S fun c S1 => if c = true then da δ S1 k else db δ S1 k
end
/-! rows of expressions; tuples, lists; calls -/
def dNil : DA := fun _ S k => k [] S
def dCons (da : DE) (dr : DA) : DA := fun δ S k => da δ S fun x S1 => dr δ S1 fun xs S2 => k (x :: xs) S2
theorem da_nil : PA X [] (lA K dNil) := paOf pa_nil fun σ H Q ⟨B, δ, S, k, s, r, h, q⟩ => q [] S [] B H h (Ex.refl B) r .nil
theorem da_cons {e : Expr} {es : List Expr} {da : DE} {dr : DA} (ha : PE X e (lE K da)) (hr : PA X es (lA K dr)) (hs : starEach (e :: es) X.env = (false, eval e X.env) :: starEach es X.env := by rfl) : PA X (e :: es) (lA K (dCons da dr)) :=
  paOf (pa_cons ha hr hs) fun σ H Q ⟨B, δ, S, k, s, r, h, q⟩ => ⟨B, δ, S, _, s, r, h, fun x S1 v B1 H1 h1 e1 r1 d1 => ⟨B1, δ, S1, _, s.mono e1, r1, h1, fun xs S2 vs B2 H2 h2 e2 r2 d2 => q _ S2 _ B2 H2 h2 (e1.trans e2) r2 (.cons (d1.mono e2) d2)⟩⟩
def dTup (da : DA) : DE := fun δ S k => da δ S fun xs S1 => xs.length ≤ 100000 ∧ k (.tup xs) S1
def dLst (da : DA) : DE := fun δ S k => da δ S fun xs S1 => xs.length ≤ 100000 ∧ k (.list xs) S1
theorem de_lst {es : List Expr} {da : DA} {pos} (h : PA X es (lA K da)) : PE X (.List es pos) (lE K (dLst da)) := peOf (pe_lst h) fun σ H Q ⟨B, δ, S, k, s, r, h, q⟩ =>
  ⟨B, δ, S, _, s, r, h, fun xs S1 vs B1 H1 ⟨hl, h1⟩ e1 r1 d1 => ⟨sz_of (by rw [d1.length]; exact hl), fun p hp => q _ S1 _ _ _ h1 (e1.trans (r1.new hp).2) (r1.new hp).1 (.lst upd_same (d1.mono (r1.new hp).2))⟩⟩
/-- a list that will change -/
def dNew (da : DA) : DE := fun δ S k => da δ S fun xs S1 => xs.length ≤ 100000 ∧ ∀ p, S1 p = none → k (.ref p) (put S1 p (.lst xs))
theorem de_new {es : List Expr} {da : DA} {pos} (h : PA X es (lA K da)) : PE X (.List es pos) (lE K (dNew da)) := peOf (pe_lst h) fun σ H Q ⟨B, δ, S, k, s, r, h, q⟩ =>
  ⟨B, δ, S, _, s, r, h, fun xs S1 vs B1 H1 ⟨hl, h1⟩ e1 r1 d1 => ⟨sz_of (by rw [d1.length]; exact hl), fun p hp => q _ _ _ B1 _ (h1 p (r1.fresh hp).2) e1 (r1.newS hp (.lst d1)) (.ref p)⟩⟩
def dNewD : DE := fun _ S k => ∀ p, S p = none → k (.ref p) (put S p (.dct []))
theorem de_newD {pos} : PE X (.Dict [] [] pos) (lE K dNewD) := peOf pe_dnewK fun σ H Q ⟨B, δ, S, k, s, r, h, q⟩ => fun p hp => q _ _ _ B _ (h p (r.fresh hp).2) (Ex.refl B) (r.newS hp (.dct .nil)) (.ref p)
def dCall (f : SpD) (da : DA) : DE := fun δ S k => da δ S fun xs S1 => f xs S1 k fun _ _ _ => False
theorem l_call {f : SpD} {da : DA} (σ : L2.St) (H : Hp) (Q : VK) : lE K (dCall f da) σ H Q → tCall (lSp K f) [] E0 (lA K da) σ H Q := fun ⟨B, δ, S, k, s, r, h, q⟩ =>
  ⟨B, δ, S, _, s, r, h, fun xs S1 vs B1 H1 h1 e1 r1 d1 => ⟨B1, xs, S1, k, _, by rw [List.append_nil]; exact d1, r1, h1, fun x S' v B' H' hk e' => q x S' v B' H' hk (e1.trans e'), fun _ _ _ _ _ z => z.elim⟩⟩
/-- a def with its promise over data -/
abbrev DefD (P : Program) (w : World) (K : PySem.W.Frag) (mg : Str → Option Value) (base : Heap) (k : Nat) (x : Str) (ps : List Str) (f : SpD) : Prop := Def P w K mg base k x ps (lSp K f)
theorem de_call {k : Nat} {x : Str} {ps : List Str} {f : SpD} {p pos : Pos} {e : Expr} {es : List Expr} {da : DA} (h : Def X.prog X.w X.K X.mg X.base k x ps (lSp K f)) (hr : Room k X.A) (hg : Gl X x) (ha : PA X (e :: es) (lA K da))
    (hdb : (x == ("__debug__" : Str)) = false := by decide) (he : starEach (e :: es) X.env = (false, eval e X.env) :: starEach es X.env := by rfl) (hpl : (backTo pos (starEach es X.env)).any (·.1) = false := by rfl) :
    PE X (.Call (.Name x p) (e :: es) [] pos) (lE K (dCall f da)) := peOf (pe_def h hr hg ha hdb he hpl) l_call
/-! calls of built-ins -/
def SimC (K : PySem.W.Frag) (r : List V → Hp → VK → Prop) (rd : List D → Sto → DK → Prop) : Prop := ∀ (B : Hp) (S : Sto) (H : Hp) (vs : List V) (xs : List D) (k : DK) (Q : VK), R K B S H → RdL K B vs xs → rd xs S k →
  (∀ z S' u B' H', k z S' → Ex B B' → R K B' S' H' → RdD K B' u z → Q u H') → r vs H Q
def dCB (rd : List D → Sto → DK → Prop) (da : DA) : DE := fun δ S k => da δ S fun xs S1 => rd xs S1 k
theorem l_cb {r : List V → Hp → VK → Prop} {rd : List D → Sto → DK → Prop} {da : DA} (hs : SimC K r rd) (σ : L2.St) (H : Hp) (Q : VK) : lE K (dCB rd da) σ H Q → tCB r (lA K da) σ H Q := fun ⟨B, δ, S, k, s, r, h, q⟩ =>
  ⟨B, δ, S, _, s, r, h, fun xs S1 vs B1 H1 h1 e1 r1 d1 => hs B1 S1 H1 vs xs k Q r1 d1 h1 fun z S' u B' H' hk e' r' d' => q z S' u B' H' hk (e1.trans e') r' d'⟩
theorem de_callB {id : String} {x : Str} {p pos : Pos} {e : Expr} {es : List Expr} {da : DA} {r : List V → Hp → VK → Prop} {rd : List D → Sto → DK → Prop} (hc : CallR X (.builtin id) r) (hs : SimC K r rd) (hg : Gl X x) (hm : X.mg x = none) (hv : bootBuiltins x = some (.builtin id)) (ha : PA X (e :: es) (lA K da)) (hn : x ≠ "__name__" := by decide) (hdb : (x == ("__debug__" : Str)) = false := by decide)
    (he : starEach (e :: es) X.env = (false, eval e X.env) :: starEach es X.env := by rfl) (hpl : (backTo pos (starEach es X.env)).any (·.1) = false := by rfl) : PE X (.Call (.Name x p) (e :: es) [] pos) (lE K (dCB rd da)) := peOf (pe_callB hc hg hm hv ha hn hdb he hpl) (l_cb hs)
theorem de_callTy {T : String} {x : Str} {p pos : Pos} {e : Expr} {es : List Expr} {da : DA} {r : List V → Hp → VK → Prop} {rd : List D → Sto → DK → Prop} (hc : CallR X (.type T) r) (hs : SimC K r rd) (hg : Gl X x) (hm : X.mg x = none) (hv : bootBuiltins x = some (.type T)) (ha : PA X (e :: es) (lA K da)) (hn : x ≠ "__name__" := by decide) (hdb : (x == ("__debug__" : Str)) = false := by decide)
    (he : starEach (e :: es) X.env = (false, eval e X.env) :: starEach es X.env := by rfl) (hpl : (backTo pos (starEach es X.env)).any (·.1) = false := by rfl) : PE X (.Call (.Name x p) (e :: es) [] pos) (lE K (dCB rd da)) := peOf (pe_callTy hc hg hm hv ha hn hdb he hpl) (l_cb hs)
end
end DL

set_option Elab.async false
set_option linter.all false
set_option maxRecDepth 100000
namespace DL
open PySem L2 Evl EX
/-! ### statements -/
section
variable {X : Cx} {K : PySem.W.Frag} {W : WXD} {st : Stmt} {rest : List Stmt} {d e : DS} {pos : Pos}
def dNext : DS := fun D δ S => D.nx δ S
def dSeq (d e : DS) : DS := fun D δ S => d { D with nx := e D } δ S
def dCut (d e : DS) : DS := fun D δ S => ∃ M : Dst → Sto → Prop, d { D with nx := M } δ S ∧ ∀ δ' S', M δ' S' → e D δ' S'
theorem dss_nil : PSs X [] (lS K W dNext) := pssOf pss_nil fun E σ H ⟨B, δ, S, D, s, r, h, l⟩ => l.nx δ S σ B H h (Ex.refl B) s r
theorem dss_one (h : PS X st (lS K W d)) : PSs X [st] (lS K W d) := pssOf (pss_one h) fun E σ H h => h
theorem dss_cons (h1 : PS X st (lS K W d)) (h2 : PSs X rest (lS K W e)) : PSs X (st :: rest) (lS K W (dSeq d e)) := pssOf (pss_cons h1 h2) fun E σ H ⟨B, δ, S, D, s, r, h, l⟩ =>
  ⟨B, δ, S, _, s, r, h, fun δ1 S1 σ1 B1 H1 h1 e1 s1 r1 => ⟨B1, δ1, S1, D, s1, r1, h1, l.mono e1⟩, l.rt, l.bk, l.ct, l.xx⟩
def dDrop (de : DE) : DS := fun D δ S => de δ S fun _ S1 => D.nx δ S1
def dRet (de : DE) : DS := fun D δ S => de δ S D.rt
def dRetN : DS := fun D _ S => D.rt .non S
def dIfS (t : DT) (d e : DS) : DS := fun D δ S => t δ S fun b S1 => if b = true then d D δ S1 else e D δ S1
def dPass : DS := fun D δ S => D.nx δ S
def dBreak : DS := fun D δ S => D.bk δ S
def dCont : DS := fun D δ S => D.ct δ S
def dNever : DS := fun _ _ _ => False
variable {ex : Expr} {de : DE} {t : DT}
theorem ds_expr (h : PE X ex (lE K de)) (hs : swapsWith ex none pos.line X.env = pure false := by rfl) : PS X (.Expr ex pos) (lS K W (dDrop de)) := psOf (ps_expr h hs) fun E σ H ⟨B, δ, S, D, s, r, h, l⟩ =>
  ⟨B, δ, S, _, s, r, h, fun x S1 v B1 H1 h1 e1 r1 _ => l.nx δ S1 σ B1 H1 h1 e1 (s.mono e1) r1⟩
theorem ds_ret (h : PE X ex (lE K de)) : PS X (.Return (some ex) pos) (lS K W (dRet de)) := psOf (ps_ret h) fun E σ H ⟨B, δ, S, D, s, r, h, l⟩ => ⟨B, δ, S, _, s, r, h, l.rt⟩
theorem ds_retN : PS X (.Return none pos) (lS K W dRetN) := psOf ps_retN fun E σ H ⟨B, δ, S, D, s, r, h, l⟩ => l.rt _ S _ B H h (Ex.refl B) r .non
theorem ds_if {c : Expr} {a b : List Stmt} (hc : PT X c (lT K t)) (ha : PSs X a (lS K W d)) (hb : PSs X b (lS K W e)) : PS X (.If c a b pos) (lS K W (dIfS t d e)) := psOf (ps_if hc ha hb) fun E σ H ⟨B, δ, S, D, s, r, h, l⟩ =>
  ⟨B, δ, S, _, s, r, h, fun b S1 B1 H1 h1 e1 r1 => by
    cases b with
    | true => exact ⟨B1, δ, S1, D, s.mono e1, r1, h1, l.mono e1⟩
    | false => exact ⟨B1, δ, S1, D, s.mono e1, r1, h1, l.mono e1⟩⟩
theorem ds_never : PS X st (lS K W dNever) := psOf ps_never fun E σ H ⟨B, δ, S, D, s, r, h, l⟩ => h.elim
/-! targets -/
abbrev DG := D → Dst → Sto → (Dst → Sto → Prop) → Prop
abbrev DGs := List D → Dst → Sto → (Dst → Sto → Prop) → Prop
def lG (K : PySem.W.Frag) (g : DG) : TG := fun v σ H Q => ∃ B δ S x k, Sl K B σ δ ∧ R K B S H ∧ RdD K B v x ∧ g x δ S k ∧ ∀ δ' S' σ' B' H', k δ' S' → Ex B B' → Sl K B' σ' δ' → R K B' S' H' → Q σ' H'
def gN (i : Nat) : DG := fun x δ S k => k (δ.set i (some x)) S
theorem dg_name {i : Nat} {x : Str} (hN : X.N.Nodup) (hi : X.N[i]? = some x) (hx : Loc X.env.scope x) (hf : X.fn x = true ∨ X.env.scope.names.lookup x = some .local := by first | exact .inl rfl | exact .inr rfl | assumption) : PG X (.Name x pos) (lG K (gN i)) :=
  pgOf (pg_name hN hi hx hf) fun v σ H Q ⟨B, δ, S, x, k, s, r, rd, h, q⟩ => q _ S _ B H h (Ex.refl B) (s.set rd i) r
def gsNil : DGs := fun xs δ S k => match xs with
  | [] => k δ S
  | _ => False
def gsCons (g : DG) (gs : DGs) : DGs := fun xs δ S k => match xs with
  | x :: r => g x δ S fun δ' S' => gs r δ' S' k
  | [] => False
def gT (n : Nat) (gs : DGs) : DG := fun x δ S k => match x with
  | .tup ds => ds.length = n ∧ gs ds δ S k
  | _ => False
def dAsg (de : DE) (g : DG) : DS := fun D δ S => de δ S fun x S1 => g x δ S1 D.nx
theorem ds_asg {tg : Expr} {g : DG} (h : PE X ex (lE K de)) (hg : PG X tg (lG K g)) (hs : swapsWithSole [tg] ex pos.line X.env = pure false := by rfl) (hw : swappedStores [tg] ex X.env = pure none := by rfl)
    (h1 : (assignEach [tg] X.env).map (·.2) = [assign tg X.env] := by rfl) : PS X (.Assign [tg] ex pos) (lS K W (dAsg de g)) := psOf (ps_asg h hg hs hw h1) fun E σ H ⟨B, δ, S, D, s, r, h, l⟩ =>
  ⟨B, δ, S, _, s, r, h, fun x S1 v B1 H1 h1 e1 r1 d1 => ⟨B1, δ, S1, x, _, s.mono e1, r1, d1, h1, fun δ' S' σ' B' H' hk e' s' r' => l.nx δ' S' σ' B' H' hk (e1.trans e') s' r'⟩⟩
def dSet (de : DE) (i : Nat) : DS := fun D δ S => de δ S fun x S1 => D.nx (δ.set i (some x)) S1
theorem ds_set {i : Nat} {x : Str} {pos' : Pos} (hN : X.N.Nodup) (hi : X.N[i]? = some x) (hx : Loc X.env.scope x) (h : PE X ex (lE K de)) (hs : swapsWith ex (some (.Name x pos')) pos.line X.env = pure false := by rfl) (hf : X.fn x = true ∨ X.env.scope.names.lookup x = some .local := by first | exact .inl rfl | exact .inr rfl | assumption) :
    PS X (.Assign [.Name x pos'] ex pos) (lS K W (dSet de i)) := psOf (ps_set hN hi hx h hs hf) fun E σ H ⟨B, δ, S, D, s, r, h, l⟩ =>
  ⟨B, δ, S, _, s, r, h, fun x S1 v B1 H1 h1 e1 r1 d1 => l.nx _ S1 _ B1 H1 h1 e1 ((s.mono e1).set d1 i) r1⟩
/-! what is walked -/
abbrev DI := Dst → Sto → (List D → Sto → Prop) → Prop
structure ItOk (K : PySem.W.Frag) (B : Hp) (J : It) (ds : List D) : Prop where
  go : ∀ i H, Ex B H → i < ds.length → J.go i H
  stop : ∀ i H, Ex B H → ds.length ≤ i → J.stop i H
  yld : ∀ i H x H' B1 S, Ex B B1 → R K B1 S H → i < ds.length → J.yld i H x H' → ∃ d B2, ds[i]? = some d ∧ Ex B1 B2 ∧ R K B2 S H' ∧ RdD K B2 x d
def lI (K : PySem.W.Frag) (di : DI) : TI := fun σ H Rr => ∃ B δ S k, Sl K B σ δ ∧ R K B S H ∧ di δ S k ∧ ∀ ds S' B' H' J, k ds S' → Ex B B' → R K B' S' H' → ItOk K B' J ds → Rr J H'
theorem piOf {tg it : Expr} {t u : TI} (h : PI X tg it t) (k : ∀ σ H Q, u σ H Q → t σ H Q) : PI X tg it u := ⟨fun pins s σ H Q I q => h.run pins s σ H Q I (k σ H Q q)⟩
section
variable {tg l : Expr} {da : DA}
theorem itok_list {B : Hp} {a : Addr} {xs : List V} {ds : List D} (h : SqL K B a xs) (r : RdL K B xs ds) : ItOk K B (Itl K a) ds := by
  refine ⟨fun i H e hi => ?_, fun i H e hi => ⟨xs, ex_l e h, by rw [r.length]; exact hi⟩, fun i H x H' B1 S e1 r1 hi hy => ?_⟩
  · have : i < xs.length := by rw [r.length]; exact hi
    exact ⟨xs, xs[i], ex_l e h, List.getElem?_eq_getElem this⟩
  · obtain ⟨rfl, hy⟩ := hy
    have hx := hy xs (ex_l (e1.trans r1.ex) h)
    obtain ⟨d, hd, rd⟩ := r.getV hx
    exact ⟨d, B1, hd, Ex.refl B1, r1, rd.mono e1⟩
theorem itok_tup {B : Hp} {a : Addr} {xs : List V} {ds : List D} (h : SqT K B a xs) (r : RdL K B xs ds) : ItOk K B (Itt K a) ds := by
  refine ⟨fun i H e hi => ?_, fun i H e hi => ⟨xs, ex_t e h, by rw [r.length]; exact hi⟩, fun i H x H' B1 S e1 r1 hi hy => ?_⟩
  · have : i < xs.length := by rw [r.length]; exact hi
    exact ⟨xs, xs[i], ex_t e h, List.getElem?_eq_getElem this⟩
  · obtain ⟨rfl, hy⟩ := hy
    have hx := hy xs (ex_t (e1.trans r1.ex) h)
    obtain ⟨d, hd, rd⟩ := r.getV hx
    exact ⟨d, B1, hd, Ex.refl B1, r1, rd.mono e1⟩
def diL (de : DE) : DI := fun δ S k => de δ S fun x S1 => match x with
  | .list ds => k ds S1
  | .scr ds => k ds S1
  | _ => False
theorem di_list (h : PE X l (lE K de)) (hk : X.K = K := by rfl) : PI X tg l (lI K (diL de)) := piOf (piL h hk) fun σ H Q ⟨B, δ, S, k, s, r, h, q⟩ =>
  ⟨B, δ, S, _, s, r, h, fun x S1 v B1 H1 h1 e1 r1 d1 => by
    split at h1
    · obtain ⟨a, xs, rfl, ha, rl⟩ := rd_list d1
      exact ⟨a, rfl, ⟨xs, sq_of (r1.ex _ _ ha)⟩, q _ S1 B1 H1 _ h1 e1 r1 (itok_list (sq_of ha) rl)⟩
    · obtain ⟨a, xs, rfl, ha, rl⟩ := rd_scr d1
      exact ⟨a, rfl, ⟨xs, ex_l r1.ex ha⟩, q _ S1 B1 H1 _ h1 e1 r1 (itok_list ha rl)⟩
    · exact h1.elim⟩
def diT (de : DE) : DI := fun δ S k => de δ S fun x S1 => match x with
  | .tup ds => k ds S1
  | _ => False
theorem di_tup (h : PE X l (lE K de)) (hk : X.K = K := by rfl) : PI X tg l (lI K (diT de)) := piOf (piT h hk) fun σ H Q ⟨B, δ, S, k, s, r, h, q⟩ =>
  ⟨B, δ, S, _, s, r, h, fun x S1 v B1 H1 h1 e1 r1 d1 => by
    split at h1
    · obtain ⟨a, xs, rfl, ha, rl⟩ := rd_tup d1
      exact ⟨a, rfl, ⟨xs, ex_t r1.ex ha⟩, q _ S1 B1 H1 _ h1 e1 r1 (itok_tup ha rl)⟩
    · exact h1.elim⟩
def rngD (lo : Int) (n : Nat) : List D := (List.range n).map fun (i : Nat) => .int (lo + (i : Int))
theorem rngD_len (lo : Int) (n : Nat) : (rngD lo n).length = n := by simp [rngD]
theorem rngD_get {lo : Int} {n i : Nat} {d : D} (h : (rngD lo n)[i]? = some d) : d = .int (lo + (i : Int)) ∧ i < n := by
  unfold rngD at h
  rw [List.getElem?_map] at h
  by_cases hi : i < n
  · rw [List.getElem?_range hi] at h
    cases h
    exact ⟨rfl, hi⟩
  · rw [List.getElem?_eq_none (by simpa using hi)] at h
    cases h
theorem itok_rng {B : Hp} (lo : Int) (n : Nat) : ItOk K B (Itr lo n) (rngD lo n) := by
  refine ⟨fun i H e hi => by rw [rngD_len] at hi; exact hi, fun i H e hi => by rw [rngD_len] at hi; exact hi, fun i H x H' B1 S e1 r1 hi hy => ?_⟩
  obtain ⟨rfl, rfl⟩ := hy
  rw [rngD_len] at hi
  exact ⟨.int (lo + i), B1, by unfold rngD; rw [List.getElem?_map, List.getElem?_range hi]; rfl, Ex.refl B1, r1, .int _⟩
def diR1 (da : DA) : DI := fun δ S k => da δ S fun xs S1 => match xs with
  | [.int j] => -(2 ^ 62) ≤ j ∧ j < 2 ^ 62 ∧ k (rngD 0 j.toNat) S1
  | _ => False
theorem di_range1 {a : Expr} {p pos : Pos} (hg : Gl X "range") (hm : X.mg "range" = none) (ha : PA X [a] (lA K da)) (hs : starEach [a] X.env = [(false, eval a X.env)] := by rfl) : PI X tg (.Call (.Name "range" p) [a] [] pos) (lI K (diR1 da)) :=
  piOf (pi_range1 hg hm ha hs) fun σ H Q ⟨B, δ, S, k, s, r, h, q⟩ => ⟨B, δ, S, _, s, r, h, fun xs S1 vs B1 H1 h1 e1 r1 d1 => by
    split at h1
    · rename_i j
      cases d1 with
      | cons d1 dr =>
        cases dr
        rw [rd_int d1]
        exact ⟨j, rfl, h1.1, h1.2.1, q _ S1 B1 H1 _ h1.2.2 e1 r1 (itok_rng 0 _)⟩
    · exact h1.elim⟩
def diR2 (da : DA) : DI := fun δ S k => da δ S fun xs S1 => match xs with
  | [.int i, .int j] => (-(2 ^ 62) ≤ i ∧ i < 2 ^ 62 ∧ -(2 ^ 62) ≤ j ∧ j < 2 ^ 62) ∧ k (rngD i (j - i).toNat) S1
  | _ => False
def diStr (de : DE) : DI := fun δ S k => de δ S fun x S1 => match x with
  | .str z => k (z.cps.toList.map fun c => .str ⟨#[c]⟩) S1
  | _ => False
def enumD (ds : List D) : List D := (List.range ds.length).map fun (i : Nat) => .tup [.int (i : Int), ds.getD i .non]
def diEnum (da : DA) : DI := fun δ S k => da δ S fun xs S1 => match xs with
  | [.list ds] => k (enumD ds) S1
  | [.scr ds] => k (enumD ds) S1
  | _ => False
end
/-! loops -/
def dFor (di : DI) (g : DG) (b : DS) : DS := fun D δ S => di δ S fun ds S1 => ∃ I : Nat → Dst → Sto → Prop, I 0 δ S1 ∧
  (∀ n d δ' S', ds[n]? = some d → I n δ' S' → g d δ' S' fun δ2 S2 => b { D with nx := I (n + 1), ct := I (n + 1), bk := D.nx } δ2 S2) ∧ ∀ δ' S', I ds.length δ' S' → D.nx δ' S'
theorem ds_for {iter tg : Expr} {body : List Stmt} {di : DI} {g : DG} (hp : PassesOwn (model X.prog X.w) X.A X.env X.xe) (hc : X.calm = true) (hi : PI X tg iter (lI K di)) (hg : PG X tg (lG K g)) (hb : PSs X body (lS K W d)) (hs : ∀ x, foldedSetIterable iter X.env x = pure x := by intro _; rfl)
    : PS X (.For tg iter body [] pos) (lS K W (dFor di g d)) := psOf (ps_for hp hc hi hg hb hs) fun E σ H ⟨B, δ, S, D, s, r, h, l⟩ =>
  ⟨B, δ, S, _, s, r, h, fun ds S1 B1 H1 J ⟨I, h0, hs, hd⟩ e1 r1 it => by
    refine ⟨fun i m σ' H' => m = ds.length - i ∧ i ≤ ds.length ∧ ∃ B2 δ2 S2, Ex B1 B2 ∧ Sl K B2 σ' δ2 ∧ R K B2 S2 H' ∧ I i δ2 S2, ⟨ds.length, rfl, Nat.zero_le _, B1, δ, S1, Ex.refl B1, s.mono e1, r1, h0⟩, ?_⟩
    rintro i m σ' H' ⟨rfl, hi, B2, δ2, S2, e2, s2, r2, hI⟩
    by_cases hlt : i < ds.length
    · refine .inr ⟨it.go i H' (e2.trans r2.ex) hlt, fun σ3 H3 => ∃ B3 δ3 S3, Ex B1 B3 ∧ Sl K B3 σ3 δ3 ∧ R K B3 S3 H3 ∧ I (i + 1) δ3 S3, fun σ3 H3 hn => ⟨ds.length - (i + 1), by omega, rfl, by omega, hn⟩, fun x H3 hy => ?_⟩
      obtain ⟨d', B3, hd', e3, r3, rd⟩ := it.yld i H' x H3 B2 S2 e2 r2 hlt hy
      refine ⟨B3, δ2, S2, d', _, s2.mono e3, r3, rd, hs i d' δ2 S2 hd' hI, fun δ4 S4 σ4 B4 H4 h4 e4 s4 r4 => ⟨B4, δ4, S4, _, s4, r4, h4, ?_⟩⟩
      have e14 : Ex B1 B4 := e2.trans (e3.trans e4)
      exact ⟨fun δ5 S5 σ5 B5 H5 h5 e5 s5 r5 => ⟨B5, δ5, S5, e14.trans e5, s5, r5, h5⟩, fun x S v B' H' hk e' => l.rt x S v B' H' hk (e1.trans (e14.trans e')), fun δ5 S5 σ5 B5 H5 h5 e5 s5 r5 => l.nx δ5 S5 σ5 B5 H5 h5 (e1.trans (e14.trans e5)) s5 r5,
        fun δ5 S5 σ5 B5 H5 h5 e5 s5 r5 => ⟨B5, δ5, S5, e14.trans e5, s5, r5, h5⟩, fun c od δ5 S5 σ5 B5 H5 h5 e5 => l.xx c od δ5 S5 σ5 B5 H5 h5 (e1.trans (e14.trans e5))⟩
    · have ei : i = ds.length := by omega
      subst ei
      exact .inl ⟨it.stop _ H' (e2.trans r2.ex) (Nat.le_refl _), l.nx δ2 S2 σ' B2 H' (hd δ2 S2 hI) (e1.trans e2) s2 r2⟩⟩
def dWhile (t : DT) (b : DS) : DS := fun D δ S => ∃ W : Nat → Dst → Sto → Prop, (∃ m, W m δ S) ∧ ∀ m δ' S', W m δ' S' → t δ' S' fun c S1 => if c = true then b { D with nx := fun δ2 S2 => ∃ m', m' < m ∧ W m' δ2 S2, ct := fun δ2 S2 => ∃ m', m' < m ∧ W m' δ2 S2, bk := D.nx } δ' S1 else D.nx δ' S1
theorem ds_while {c : Expr} {body : List Stmt} (hp : PassesOwn (model X.prog X.w) X.A X.env X.xe) (hc : PT X c (lT K t)) (hb : PSs X body (lS K W d)) : PS X (.While c body [] pos) (lS K W (dWhile t d)) := psOf (ps_while hp hc hb) fun E σ H ⟨B, δ, S, D, s, r, ⟨Wm, ⟨m0, w0⟩, h⟩, l⟩ => by
  refine ⟨fun m σ' H' => ∃ B2 δ2 S2, Ex B B2 ∧ Sl K B2 σ' δ2 ∧ R K B2 S2 H' ∧ Wm m δ2 S2, ⟨m0, B, δ, S, Ex.refl B, s, r, w0⟩, ?_⟩
  rintro m σ' H' ⟨B2, δ2, S2, e2, s2, r2, hW⟩
  refine ⟨B2, δ2, S2, _, s2, r2, h m δ2 S2 hW, fun c S3 B3 H3 h3 e3 r3 => ?_⟩
  cases c with
  | true =>
    refine ⟨fun σ4 H4 => ∃ m', m' < m ∧ ∃ B2 δ2 S2, Ex B B2 ∧ Sl K B2 σ4 δ2 ∧ R K B2 S2 H4 ∧ Wm m' δ2 S2, fun σ4 H4 h4 => h4, B3, δ2, S3, _, s2.mono e3, r3, h3, ?_⟩
    have e13 := e2.trans e3
    exact ⟨fun δ5 S5 σ5 B5 H5 ⟨m', hm, h5⟩ e5 s5 r5 => ⟨m', hm, B5, δ5, S5, e13.trans e5, s5, r5, h5⟩, fun x S v B' H' hk e' => l.rt x S v B' H' hk (e13.trans e'), fun δ5 S5 σ5 B5 H5 h5 e5 s5 r5 => l.nx δ5 S5 σ5 B5 H5 h5 (e13.trans e5) s5 r5,
      fun δ5 S5 σ5 B5 H5 ⟨m', hm, h5⟩ e5 s5 r5 => ⟨m', hm, B5, δ5, S5, e13.trans e5, s5, r5, h5⟩, fun c od δ5 S5 σ5 B5 H5 h5 e5 => l.xx c od δ5 S5 σ5 B5 H5 h5 (e13.trans e5)⟩
  | false => exact l.nx δ2 S3 σ' B3 H3 h3 (e2.trans e3) (s2.mono e3) r3
end
/-! ### a def -/
def startD (N : List Str) (ds : List D) : Dst := ds.map some ++ List.replicate (N.length - ds.length) none
theorem sl_start {K : PySem.W.Frag} {B : Hp} {N : List Str} {vs : List V} {ds : List D} (h : RdL K B vs ds) : Sl K B (L2.start N vs) (startD N ds) := by
  have hl := h.length
  refine ⟨by simp [L2.start, startD, hl], fun i d e => ?_⟩
  unfold startD at e
  by_cases hi : i < ds.length
  · rw [List.getElem?_append_left (by simpa using hi), List.getElem?_map] at e
    obtain ⟨d', h1, h2⟩ := Option.map_eq_some_iff.mp e
    cases h2
    obtain ⟨v, hv, rd⟩ := h.get h1
    refine ⟨v, ?_, rd⟩
    unfold L2.start
    rw [List.getElem?_append_left (by rw [List.length_map]; omega), List.getElem?_map, hv]
    rfl
  · rw [List.getElem?_append_right (by simpa using hi)] at e
    have := List.mem_of_getElem? e
    simp at this
section
variable {P : Program} {w : World} {K : PySem.W.Frag} {mg : Str → Option Value} {base : Heap}
theorem dok {x qual : Str} {st : Stmt} {f : Addr} {fd : FuncData} {N ps : List Str} {k : Nat} {sp : SpD} (F : Fun K x qual st f fd) (Sc : FnScope N ps (defScope st)) (len : ∀ ds S q qx, sp ds S q qx → ds.length = ps.length)
    (h : ∃ d : DS, (∀ (cdv : Value) (A : Around) (outer : List Env) (s : Shared) (H : Hp) (E : XK), Room k (A.deeper (PyProof.Rows.envOfC qual (defScope st) s.heap.objs.size f cdv)) → PSs (cxOf CX0 P w K mg base N qual (defScope st) f cdv A outer s H E).nox (defBody st) (lS K (fun _ _ _ _ => False) d)) ∧
      ∀ ds S q qx, sp ds S q qx → d { nx := fun _ S' => q .non S', rt := q } (startD N ds) S) : FnOk P w K mg base CX0 (k + 1) f fd ps (lSp K sp) := by
  obtain ⟨d, hd, hs⟩ := h
  refine F.ok Sc (fun vs H Q E ⟨B, ds, S, q, qx, rd, r, h, _⟩ => by rw [rd.length]; exact len ds S q qx h) (fun cdv A outer s H vs Q E hr ⟨B, ds, S, q, qx, rd, r, h, hq, _⟩ => ?_)
  refine ⟨_, hd cdv A outer s H E hr, B, startD N ds, S, _, sl_start rd, r, hs ds S q qx h, ?_⟩
  exact ⟨fun δ S' σ B' H' hk e' _ r' => hq .non S' .non B' H' hk e' r' .non, fun x S' v B' H' hk e' r' rd' => hq x S' v B' H' hk e' r' rd', fun _ _ _ _ _ z => z.elim, fun _ _ _ _ _ z => z.elim, fun _ _ _ _ _ _ _ z => z.elim⟩
end
end DL

set_option Elab.async false
set_option linter.all false
set_option maxRecDepth 100000
namespace DL
open PySem L2 Evl EX
/-! ### comprehensions -/
def wipeD (δ : Dst) : List Nat → Dst
  | [] => δ
  | v :: vs => (wipeD δ vs).set v none
theorem wipe_at (σ : L2.St) (i : Nat) : ∀ vs : List Nat, (wipe σ vs)[i]? = if i ∈ vs ∧ i < σ.length then some none else σ[i]?
  | [] => by simp [wipe]
  | v :: vs => by
    unfold wipe
    by_cases h : v = i
    · subst h
      by_cases hl : v < σ.length
      · rw [List.getElem?_set_self (by rw [wipe_length]; exact hl), if_pos ⟨List.mem_cons_self, hl⟩]
      · rw [List.getElem?_eq_none (by rw [List.length_set, wipe_length]; omega), if_neg (fun z => hl z.2), List.getElem?_eq_none (by omega)]
    · rw [List.getElem?_set_ne h, wipe_at σ i vs]
      have : (i ∈ v :: vs) ↔ i ∈ vs := by simp [List.mem_cons, Ne.symm h]
      simp [this]
theorem wipe_same {σ τ : L2.St} {vs : List Nat} (hl : σ.length = τ.length) (h : ∀ i, i ∉ vs → σ[i]? = τ[i]?) : wipe σ vs = wipe τ vs := by
  apply List.ext_getElem?
  intro i
  rw [wipe_at, wipe_at, hl]
  by_cases hi : i ∈ vs
  · by_cases h2 : i < τ.length
    · rw [if_pos ⟨hi, h2⟩, if_pos ⟨hi, h2⟩]
    · rw [if_neg (fun z => h2 z.2), if_neg (fun z => h2 z.2), List.getElem?_eq_none (by omega), List.getElem?_eq_none (by omega)]
  · rw [if_neg (fun z => hi z.1), if_neg (fun z => hi z.1)]
    exact h i hi
theorem Sl.setN {K : PySem.W.Frag} {B : Hp} {σ : L2.St} {δ : Dst} (s : Sl K B σ δ) (j : Nat) : Sl K B (σ.set j none) (δ.set j none) := by
  refine ⟨by simp [s.len], fun i d e => ?_⟩
  by_cases h : j = i
  · subst h
    by_cases hl : j < δ.length
    · rw [List.getElem?_set_self hl] at e; cases e
    · rw [List.getElem?_eq_none (by simpa using hl)] at e; cases e
  · rw [List.getElem?_set_ne h] at e ⊢
    exact s.at_ i d e
theorem Sl.wipe {K : PySem.W.Frag} {B : Hp} {σ : L2.St} {δ : Dst} (s : Sl K B σ δ) : ∀ vs, Sl K B (L2.wipe σ vs) (wipeD δ vs)
  | [] => s
  | v :: vs => (Sl.wipe s vs).setN v
abbrev DGc := D → Dst → (Dst → Prop) → Prop
/-- a comprehension's target: it sets slots of its own alone -/
def GcOk (K : PySem.W.Frag) (vs : List Nat) (g : TG) (gd : DGc) : Prop := ∀ (B H : Hp) (σ : L2.St) (δ : Dst) (v : V) (d : D) (k : Dst → Prop) (Q : L2.St → Hp → Prop), Sl K B (wipe σ vs) δ → Ex B H → RdD K B v d → gd d δ k →
  (∀ σ2 δ2, k δ2 → Sl K B σ2 δ2 → wipe σ2 vs = wipe σ vs → Q σ2 H) → g v (wipe σ vs) H Q
def gcN (j : Nat) : DGc := fun d δ k => k (δ.set j (some d))
theorem gc_name {K : PySem.W.Frag} {vs : List Nat} {j : Nat} (hj : j ∈ vs) : GcOk K vs (gName j) (gcN j) := fun B H σ δ v d k Q s e rd h q => by
  refine q _ _ h (s.set rd j) (wipe_same (by rw [List.length_set, wipe_length]) fun i hi => ?_)
  rw [List.getElem?_set_ne (show j ≠ i from fun z => hi (z ▸ hj)), wipe_at, if_neg (fun z => hi z.1)]
def setD (δ : Dst) : List Nat → List D → Dst
  | j :: js, d :: ds => setD (δ.set j (some d)) js ds
  | _, _ => δ
def gcT (js : List Nat) : DGc := fun d δ k => match d with
  | .tup ds => ds.length = js.length ∧ k (setD δ js ds)
  | _ => False
def dLc (di : DI) (g : DGc) (t : DT) (de : DE) (vs : List Nat) : DE := fun δ S k => di δ S fun ds S1 => ds.length < 100000 ∧ ∀ p, S1 p = none → ∃ I : Nat → List D → Sto → Prop, I 0 [] S1 ∧
  (∀ n d acc S', ds[n]? = some d → S' p = none → I n acc S' → g d (wipeD δ vs) fun δ2 => t δ2 (put S' p (.lst acc)) fun b S2 => if b = true then de δ2 S2 (fun y S3 => ∃ S4, S4 p = none ∧ S3 = put S4 p (.lst acc) ∧ I (n + 1) (acc ++ [y]) S4) else ∃ S4, S4 p = none ∧ S2 = put S4 p (.lst acc) ∧ I (n + 1) acc S4) ∧
  ∀ acc S', S' p = none → I ds.length acc S' → k (.list acc) S'
def dYes : DT := fun _ S k => k true S
section
variable {X : Cx} {K : PySem.W.Frag} {W : WXD}
theorem ptsOf {es : List Expr} {t u : TT} (h : PTs X es t) (k : ∀ σ H Q, u σ H Q → t σ H Q) : PTs X es u := ⟨fun pins s σ H Q I q => h.run pins s σ H Q I (k σ H Q q)⟩
theorem dts_nil : PTs X [] (lT K dYes) := ptsOf pts_nil fun σ H Q ⟨B, δ, S, k, s, r, h, q⟩ => q true S B H h (Ex.refl B) r
theorem dts_one {c : Expr} {t : DT} (h : PT X c (lT K t)) : PTs X [c] (lT K t) := pts_one h
theorem l_lc {di : DI} {g : TG} {gd : DGc} {t : DT} {de : DE} {vs : List Nat} (hg : GcOk K vs g gd) (σ : L2.St) (H : Hp) (Q : VK) : lE K (dLc di gd t de vs) σ H Q → tLc (lI K di) g (lT K t) (lE K de) vs σ H Q := fun ⟨B, δ, S, k, s, r, h, q⟩ =>
  ⟨B, δ, S, _, s, r, h, fun ds S1 B1 H1 J ⟨hlen, hp⟩ e1 r1 it => fun Dl hD => by
    have fr := (r1.fresh hD).2
    obtain ⟨I, h0, hs, hd⟩ := hp Dl fr
    refine ⟨fun i m H' => m = ds.length - i ∧ i ≤ ds.length ∧ ∃ B2 S2 acc, acc.length ≤ i ∧ S2 Dl = none ∧ Ex B1 B2 ∧ R K B2 (put S2 Dl (.lst acc)) H' ∧ I i acc S2, ⟨ds.length, rfl, Nat.zero_le _, B1, S1, [], Nat.le_refl _, fr, Ex.refl B1, r1.newS hD (.lst .nil), h0⟩, ?_⟩
    rintro i m H' ⟨rfl, hi, B2, S2, acc, hal, n2, e2, r2, hI⟩
    by_cases hlt : i < ds.length
    · refine .inr ⟨it.go i H' (e2.trans r2.ex) hlt, fun H3 => ∃ B3 S3 acc, acc.length ≤ i + 1 ∧ S3 Dl = none ∧ Ex B1 B3 ∧ R K B3 (put S3 Dl (.lst acc)) H3 ∧ I (i + 1) acc S3, fun H3 hn => ⟨ds.length - (i + 1), by omega, rfl, by omega, hn⟩, fun x H3 hy => ?_⟩
      obtain ⟨d, B3, hd', e3, r3, rd⟩ := it.yld i H' x H3 B2 _ e2 r2 hlt hy
      refine hg B3 H3 σ (wipeD δ vs) x d _ _ ((s.mono (e1.trans (e2.trans e3))).wipe vs) r3.ex rd (hs i d acc S2 hd' n2 hI) fun σ2 δ2 hk s2 hw => ⟨hw, ?_⟩
      refine ⟨B3, δ2, _, _, s2, r3, hk, fun b S4 B4 H4 h4 e4 r4 => ?_⟩
      have e14 : Ex B1 B4 := e2.trans (e3.trans e4)
      cases b with
      | false =>
        obtain ⟨S5, n5, rfl, hI5⟩ := h4
        exact ⟨B4, S5, acc, by omega, n5, e14, r4, hI5⟩
      | true =>
        refine ⟨B4, δ2, S4, _, s2.mono e4, r4, h4, fun y S5 v B5 H5 ⟨S6, n6, h6, hI6⟩ e5 r5 d5 => ?_⟩
        subst h6
        obtain ⟨xs, hx, rl⟩ := r5.lst put_same
        have r6 := r5.mut put_same (.lst (rl.append (.one d5)))
        rw [put_put] at r6
        exact ⟨xs, hx, sz_lt (by rw [rl.length]; omega), B5, S6, acc ++ [y], by simp; omega, n6, e14.trans e5, r6, hI6⟩
    · have ei : i = ds.length := by omega
      subst ei
      obtain ⟨B', e', r', rd⟩ := r2.freeze put_same
      rw [del_put n2] at r'
      exact .inl ⟨it.stop _ H' (e2.trans r2.ex) (Nat.le_refl _), q _ _ _ B' H' (hd acc S2 n2 hI) (e1.trans (e2.trans e')) r' rd⟩⟩
theorem de_lc {elt tg iter : Expr} {ifs : List Expr} {scope : Scope} {own : List (Str × Nat)} {pos : Pos} {di : DI} {g : TG} {gd : DGc} {t : DT} {de : DE} (hgc : GcOk K (own.map (·.2)) g gd) (hc : X.calm = true) (hN : X.N.Nodup) (hi : PI X tg iter (lI K di)) (ok : BlkOk X.N X.env.scope scope own)
    (hg : ∀ (s : Shared) (H : Hp) (C : Addr) (cl : List (Str × Addr)) (fp : List Addr), PG (X.blk s H scope (compEnvC scope cl C X.env) fp) tg g) (ht : ∀ (s : Shared) (H : Hp) (C : Addr) (cl : List (Str × Addr)) (fp : List Addr), PTs (X.blk s H scope (compEnvC scope cl C X.env) fp) ifs (lT K t))
    (he : ∀ (s : Shared) (H : Hp) (C : Addr) (cl : List (Str × Addr)) (fp : List Addr), PE (X.blk s H scope (compEnvC scope cl C X.env) fp) elt (lE K de)) (hs : ∀ x, foldedSetIterable iter X.env x = pure x := by intro _; rfl) :
    PE X (.ListComp elt [⟨tg, iter, ifs, 0⟩] scope pos) (lE K (dLc di gd t de (own.map (·.2)))) := peOf (pe_lc hc hN hi ok hg ht he hs) (l_lc hgc)
theorem ds_setLc {i : Nat} {y : Str} {py : Pos} {elt tg iter : Expr} {ifs : List Expr} {scope : Scope} {own : List (Str × Nat)} {pos spos : Pos} {di : DI} {g : TG} {gd : DGc} {t : DT} {de : DE} (hgc : GcOk K (own.map (·.2)) g gd) (hc : X.calm = true) (hN : X.N.Nodup) (hy : X.N[i]? = some y) (hyl : X.env.scope.names.lookup y = some .local)
    (hsw : swapsWith (.ListComp elt [⟨tg, iter, ifs, 0⟩] scope pos) (some (.Name y py)) spos.line X.env = pure true) (hi : PI X tg iter (lI K di)) (ok : BlkOk X.N X.env.scope scope own)
    (hg : ∀ (s : Shared) (H : Hp) (C : Addr) (cl : List (Str × Addr)) (fp : List Addr), PG (X.blk s H scope (compEnvC scope cl C X.env) fp) tg g) (ht : ∀ (s : Shared) (H : Hp) (C : Addr) (cl : List (Str × Addr)) (fp : List Addr), PTs (X.blk s H scope (compEnvC scope cl C X.env) fp) ifs (lT K t))
    (he : ∀ (s : Shared) (H : Hp) (C : Addr) (cl : List (Str × Addr)) (fp : List Addr), PE (X.blk s H scope (compEnvC scope cl C X.env) fp) elt (lE K de)) (hs : ∀ x, foldedSetIterable iter X.env x = pure x := by intro _; rfl) :
    PS X (.Assign [.Name y py] (.ListComp elt [⟨tg, iter, ifs, 0⟩] scope pos) spos) (lS K W (dSet (dLc di gd t de (own.map (·.2))) i)) := psOf (ps_setLc hc hN hy hyl hsw hi ok hg ht he hs) fun E σ H ⟨B, δ, S, D, s, r, h, l⟩ =>
  l_lc hgc σ H _ ⟨B, δ, S, _, s, r, h, fun x S1 v B1 H1 h1 e1 r1 d1 => l.nx _ S1 _ B1 H1 h1 e1 ((s.mono e1).set d1 i) r1⟩
end
/-- a comprehension that leaves the store: the list so far by what holds of it -/
def LcO (S : Sto) (p : Addr) (acc : List D) (Q : Prop) (S3 : Sto) : Prop := ∃ S4, S4 p = none ∧ S3 = put S4 p (.lst acc) ∧ S4 = S ∧ Q
theorem LcO.of {S : Sto} {p : Addr} {acc : List D} {Q : Prop} (hp : S p = none) (h : Q) : LcO S p acc Q (put S p (.lst acc)) := ⟨S, hp, rfl, rfl, h⟩
theorem lc_go {g : DGc} {t : DT} {de : DE} {vs : List Nat} {δ : Dst} {S : Sto} {k : DK} {ds : List D} (P : Nat → List D → Prop) (hl : ds.length < 100000) (h0 : P 0 [])
    (hs : ∀ p, S p = none → ∀ n d acc, ds[n]? = some d → P n acc → g d (wipeD δ vs) fun δ2 => t δ2 (put S p (.lst acc)) fun b S2 => if b = true then de δ2 S2 (fun y S3 => LcO S p acc (P (n + 1) (acc ++ [y])) S3) else LcO S p acc (P (n + 1) acc) S2) (hd : ∀ acc, P ds.length acc → k (.list acc) S) :
    ds.length < 100000 ∧ ∀ p, S p = none → ∃ I : Nat → List D → Sto → Prop, I 0 [] S ∧
  (∀ n d acc S', ds[n]? = some d → S' p = none → I n acc S' → g d (wipeD δ vs) fun δ2 => t δ2 (put S' p (.lst acc)) fun b S2 => if b = true then de δ2 S2 (fun y S3 => ∃ S4, S4 p = none ∧ S3 = put S4 p (.lst acc) ∧ I (n + 1) (acc ++ [y]) S4) else ∃ S4, S4 p = none ∧ S2 = put S4 p (.lst acc) ∧ I (n + 1) acc S4) ∧
  ∀ acc S', S' p = none → I ds.length acc S' → k (.list acc) S' := by
  refine ⟨hl, fun p hp => ⟨fun n acc S' => S' = S ∧ P n acc, ⟨rfl, h0⟩, ?_, ?_⟩⟩
  · rintro n d acc S' hd' _ ⟨rfl, hP⟩
    exact hs p hp n d acc hd' hP
  · rintro acc S' _ ⟨rfl, hP⟩
    exact hd acc hP
end DL

set_option Elab.async false
set_option linter.all false
set_option maxRecDepth 100000
namespace DL
open PySem L2 Evl EX
/-! ### operators -/
def oI (f : Int → Int → D) : DR2 := fun x y S k => match x, y with
  | .int i, .int j => k (f i j) S
  | _, _ => False
def oIc (C : Int → Int → Prop) (f : Int → Int → D) : DR2 := fun x y S k => match x, y with
  | .int i, .int j => C i j ∧ k (f i j) S
  | _, _ => False
def oS (f : Str → Str → D) : DR2 := fun x y S k => match x, y with
  | .str i, .str j => k (f i j) S
  | _, _ => False
section
variable {K : PySem.W.Frag}
theorem si_I {g : Int → Int → V} {f : Int → Int → D} (h : ∀ i j B, RdD K B (g i j) (f i j)) : Sim2 K (rI0 g) (oI f) := fun B S H v w x y k Q r rx ry h1 q => by
  unfold oI at h1
  split at h1
  · rename_i i j
    exact ⟨i, j, rd_int rx, rd_int ry, q _ S _ B H h1 (Ex.refl B) r (h i j B)⟩
  · exact h1.elim
theorem si_Ic {C : Int → Int → Prop} {g : Int → Int → V} {f : Int → Int → D} (h : ∀ i j B, RdD K B (g i j) (f i j)) : Sim2 K (rI C g) (oIc C f) := fun B S H v w x y k Q r rx ry h1 q => by
  unfold oIc at h1
  split at h1
  · rename_i i j
    exact ⟨i, j, rd_int rx, rd_int ry, h1.1, q _ S _ B H h1.2 (Ex.refl B) r (h i j B)⟩
  · exact h1.elim
theorem si_add : Sim2 K (rI0 fun i j => .int (i + j)) (oI fun i j => .int (i + j)) := si_I fun _ _ _ => .int _
theorem si_sub : Sim2 K (rI0 fun i j => .int (i - j)) (oI fun i j => .int (i - j)) := si_I fun _ _ _ => .int _
theorem si_mul : Sim2 K (rI CMul fun i j => .int (i * j)) (oIc CMul fun i j => .int (i * j)) := si_Ic fun _ _ _ => .int _
theorem si_fdiv : Sim2 K (rI CDiv fun i j => .int (i / j)) (oIc CDiv fun i j => .int (i / j)) := si_Ic fun _ _ _ => .int _
theorem si_mod : Sim2 K (rI (fun _ j => 0 < j) fun i j => .int (i % j)) (oIc (fun _ j => 0 < j) fun i j => .int (i % j)) := si_Ic fun _ _ _ => .int _
theorem si_pow : Sim2 K (rI CPow fun i j => .int (i ^ j.toNat)) (oIc CPow fun i j => .int (i ^ j.toNat)) := si_Ic fun _ _ _ => .int _
theorem si_lt : Sim2 K (rI0 fun i j => .bl (decide (i < j))) (oI fun i j => .bl (decide (i < j))) := si_I fun _ _ _ => .bl _
theorem si_gt : Sim2 K (rI0 fun i j => .bl (decide (j < i))) (oI fun i j => .bl (decide (j < i))) := si_I fun _ _ _ => .bl _
def oAddS : DR2 := fun x y S k => match x, y with
  | .str i, .str j => i.length + j.length ≤ 100000 ∧ k (.str (i ++ j)) S
  | _, _ => False
def oMulS : DR2 := fun x y S k => match x, y with
  | .str i, .int n => i.length ≤ 16 ∧ -(2 ^ 63 : Int) ≤ n ∧ n ≤ 1048576 ∧ k (.str (Txt.mul i n)) S
  | _, _ => False
/-- one sign in a text -/
def oSg (neg : Bool) : DR2 := fun x y S k => match y with
  | .str z => ∃ c : Nat, x = .str ⟨#[c]⟩ ∧ k (.bl (if neg then !decide (c ∈ z.cps.toList) else decide (c ∈ z.cps.toList))) S
  | _ => False
/-- is None -/
def isNon : D → Bool
  | .non => true
  | _ => false
def oIsN (neg : Bool) : DR2 := fun x y S k => match y with
  | .non => k (.bl (if neg then !isNon x else isNon x)) S
  | _ => False
theorem isNon_iff {B : Hp} {v : V} {x : D} (h : RdD K B v x) : decide (v = .non) = isNon x := by
  cases h <;> simp [isNon]
theorem si_isN : Sim2 K (fun x y H Q => y = .non ∧ Q (.bl (decide (x = .non))) H) (oIsN false) := fun B S H v w x y k Q r rx ry h1 q => by
  unfold oIsN at h1
  split at h1
  · exact ⟨rd_non ry, by rw [isNon_iff rx]; exact q _ S _ B H h1 (Ex.refl B) r (.bl _)⟩
  · exact h1.elim
theorem si_notN : Sim2 K (fun x y H Q => y = .non ∧ Q (.bl (!decide (x = .non))) H) (oIsN true) := fun B S H v w x y k Q r rx ry h1 q => by
  unfold oIsN at h1
  split at h1
  · exact ⟨rd_non ry, by rw [isNon_iff rx]; exact q _ S _ B H h1 (Ex.refl B) r (.bl _)⟩
  · exact h1.elim
/-- == of scalars -/
def sEq : D → D → Option Bool
  | .int i, .int j => some (decide (i = j))
  | .str a, .str b => some (decide (a = b))
  | .bl a, .bl b => some (decide (a = b))
  | .non, .non => some true
  | .non, .int _ => some false
  | .non, .str _ => some false
  | .non, .bl _ => some false
  | .int _, .non => some false
  | .str _, .non => some false
  | .bl _, .non => some false
  | .int _, .str _ => some false
  | .str _, .int _ => some false
  | .bl _, .str _ => some false
  | .str _, .bl _ => some false
  | _, _ => none
theorem sEq_ok {B : Hp} {v w : V} {x y : D} {b : Bool} (h : sEq x y = some b) (rx : RdD K B v x) (ry : RdD K B w y) : scal v w = true ∧ decide (v = w) = b := by
  cases rx <;> cases ry <;> first | (simp [sEq] at h; done) | (simp only [sEq, Option.some.injEq] at h; subst h; exact ⟨rfl, by simp⟩)
def oEq (neg : Bool) : DR2 := fun x y S k => match sEq x y with
  | some b => k (.bl (if neg then !b else b)) S
  | none => False
theorem si_eq : Sim2 K rEq (oEq false) := fun B S H v w x y k Q r rx ry h1 q => by
  unfold oEq at h1
  split at h1
  · rename_i b e
    obtain ⟨h2, h3⟩ := sEq_ok e rx ry
    exact ⟨h2, by rw [h3]; exact q _ S _ B H h1 (Ex.refl B) r (.bl _)⟩
  · exact h1.elim
/-! what a sequence is -/
def SeqD (S : Sto) (x : D) (ds : List D) : Prop := match x with
  | .list es => es = ds
  | .scr es => es = ds
  | .tup es => es = ds
  | .ref a => S a = some (.lst ds)
  | _ => False
theorem seqD_ok {B H : Hp} {S : Sto} {v : V} {x : D} {ds : List D} (h : SeqD S x ds) (r : R K B S H) (rx : RdD K B v x) : ∃ p xs, v = .ref p ∧ (SqL K H p xs ∨ SqT K H p xs) ∧ RdL K B xs ds := by
  unfold SeqD at h
  split at h
  · subst h
    obtain ⟨a, xs, rfl, ha, rl⟩ := rd_list rx
    exact ⟨a, xs, rfl, .inl (sq_of (r.ex _ _ ha)), rl⟩
  · subst h
    obtain ⟨a, xs, rfl, ha, rl⟩ := rd_scr rx
    exact ⟨a, xs, rfl, .inl (ex_l r.ex ha), rl⟩
  · subst h
    obtain ⟨a, xs, rfl, ha, rl⟩ := rd_tup rx
    exact ⟨a, xs, rfl, .inr (ex_t r.ex ha), rl⟩
  · obtain ⟨xs, ha, rl⟩ := r.lst h
    exact ⟨_, xs, rd_ref rx, .inl (sq_of ha), rl⟩
  · exact h.elim
theorem rdl_atI {B : Hp} {xs : List V} {ds : List D} {i : Int} {d : D} (h : RdL K B xs ds) (e : atI ds i = some d) : ∃ v, atI xs i = some v ∧ RdD K B v d := by
  unfold atI at e ⊢
  rw [h.length]
  obtain ⟨j, hj, e⟩ := Option.bind_eq_some_iff.mp e
  obtain ⟨v, hv, rd⟩ := h.get e
  exact ⟨v, by rw [hj]; exact hv, rd⟩
/-- x[i] -/
def oIx : DR2 := fun x y S k => match y with
  | .int i => match x with
    | .str z => ∃ c, z.length ≤ 100000 ∧ atI z.cps.toList i = some c ∧ k (.str ⟨#[c]⟩) S
    | x => ∃ ds d, SeqD S x ds ∧ atI ds i = some d ∧ k d S
  | _ => False
theorem si_ix {X : Cx} (hk : X.K = K) : Sim2 K (L2.rIx X.K) oIx := fun B S H v w x y k Q r rx ry h1 q => by
  subst hk
  unfold oIx at h1
  split at h1
  · rename_i i
    rw [rd_int ry]
    split at h1
    · rename_i z
      obtain ⟨c, hz, hc, h1⟩ := h1
      rw [rd_str rx]
      exact .inr (.inr ⟨z, i, c, rfl, rfl, sz_of hz, hc, q _ S _ B H h1 (Ex.refl B) r (.str _)⟩)
    · obtain ⟨ds, d, hs, hd, h1⟩ := h1
      obtain ⟨p, xs, rfl, hp, rl⟩ := seqD_ok hs r rx
      obtain ⟨v, hv, rd⟩ := rdl_atI rl hd
      rcases hp with hp | hp
      · exact .inl ⟨p, xs, i, v, rfl, rfl, hp, hv, q _ S _ B H h1 (Ex.refl B) r rd⟩
      · exact .inr (.inl ⟨p, xs, i, v, rfl, rfl, hp, hv, q _ S _ B H h1 (Ex.refl B) r rd⟩)
  · exact h1.elim
/-- flat things -/
def toV : D → V
  | .non => .non
  | .bl b => .bl b
  | .int i => .int i
  | .str x => .str x
  | _ => .ty ""
def flatD : D → Bool
  | .non => true
  | .bl _ => true
  | .int _ => true
  | .str _ => true
  | _ => false
def inD (x : D) (ds : List D) : Bool := inV (toV x) (ds.map toV)
def oIn (neg : Bool) : DR2 := fun x y S k => ∃ ds, SeqD S y ds ∧ flatD x = true ∧ ds.all flatD = true ∧ k (.bl (if neg then !inD x ds else inD x ds)) S
/-- list + list, tuple + tuple -/
def oCat : DR2 := fun x y S k => match x, y with
  | .list a, .list b => a.length + b.length ≤ 100000 ∧ k (.list (a ++ b)) S
  | _, _ => False
theorem si_cat : Sim2 K rCat oCat := fun B S H v w x y k Q r rx ry h1 q => by
  unfold oCat at h1
  split at h1
  · obtain ⟨p, xs, rfl, hp, rl⟩ := rd_list rx
    obtain ⟨p2, ys, rfl, hp2, rl2⟩ := rd_list ry
    refine ⟨p, p2, xs, ys, rfl, rfl, r.ex _ _ hp, r.ex _ _ hp2, sz_of (by rw [rl.length, rl2.length]; exact h1.1), fun z hz => ?_⟩
    have n := r.new (o := .lst (xs ++ ys)) hz
    exact q _ S _ _ _ h1.2 n.2 n.1 (.lst upd_same ((rl.append rl2).mono n.2))
  · exact h1.elim
def oCatT : DR2 := fun x y S k => match x, y with
  | .tup a, .tup b => a ≠ [] ∧ a.length + b.length ≤ 100000 ∧ k (.tup (a ++ b)) S
  | _, _ => False
/-! slices -/
def cutD (xs : List D) (lo hi : Option Int) : List D := (xs.drop (HT.sIx xs.length 0 lo)).take (HT.sIx xs.length xs.length hi - HT.sIx xs.length 0 lo)
theorem rdl_cut {B : Hp} {xs : List V} {ds : List D} (h : RdL K B xs ds) (lo hi : Option Int) : RdL K B (cutV xs lo hi) (cutD ds lo hi) := by
  unfold cutV cutD
  rw [h.length]
  exact (h.drop _).take _
end
abbrev DO := Dst → Sto → (Option Int → Sto → Prop) → Prop
def lO (K : PySem.W.Frag) (d : DO) : TO := fun σ H Q => ∃ B δ S k, Sl K B σ δ ∧ R K B S H ∧ d δ S k ∧ ∀ o S' B' H', k o S' → Ex B B' → R K B' S' H' → Q o H'
def dNoP : DO := fun _ S k => k none S
def dPart (de : DE) : DO := fun δ S k => de δ S fun x S1 => match x with
  | .int i => k (some i) S1
  | _ => False
section
variable {X : Cx} {K : PySem.W.Frag} {e : Expr} {de : DE} {lo hi : Option Expr} {dl dh : DO}
theorem poOf {t u : TO} {lo : Option Expr} (h : PO X lo t) (k : ∀ σ H Q, u σ H Q → t σ H Q) : PO X lo u := by
  obtain ⟨r⟩ := h
  exact ⟨fun pins s σ H Q I q => r pins s σ H Q I (k σ H Q q)⟩
theorem do_none : PO X none (lO K dNoP) := poOf po_none fun σ H Q ⟨B, δ, S, k, s, r, h, q⟩ => q none S B H h (Ex.refl B) r
theorem do_some (h : PE X e (lE K de)) : PO X (some e) (lO K (dPart de)) := poOf (po_some h) fun σ H Q ⟨B, δ, S, k, s, r, h, q⟩ => ⟨B, δ, S, _, s, r, h, fun x S1 v B1 H1 h1 e1 r1 d1 => by
  split at h1
  · exact ⟨_, rd_int d1, q _ S1 B1 H1 h1 e1 r1⟩
  · exact h1.elim⟩
def dSl (rd : D → Option Int → Option Int → Sto → DK → Prop) (de : DE) (dl dh : DO) : DE := fun δ S k => de δ S fun x S1 => dl δ S1 fun l S2 => dh δ S2 fun u S3 => rd x l u S3 k
def SimS (K : PySem.W.Frag) (r : V → Option Int → Option Int → Hp → VK → Prop) (rd : D → Option Int → Option Int → Sto → DK → Prop) : Prop := ∀ (B : Hp) (S : Sto) (H : Hp) (v : V) (x : D) (l u : Option Int) (k : DK) (Q : VK), R K B S H → RdD K B v x → rd x l u S k →
  (∀ z S' u B' H', k z S' → Ex B B' → R K B' S' H' → RdD K B' u z → Q u H') → r v l u H Q
theorem de_slice {r : V → Option Int → Option Int → Hp → VK → Prop} {rd : D → Option Int → Option Int → Sto → DK → Prop} {p2 pos : Pos} (hr : SlR X r) (hs : SimS K r rd) (he : PE X e (lE K de)) (hl : PO X lo (lO K dl)) (hu : PO X hi (lO K dh)) : PE X (.Subscript e (.Slice lo hi none p2) pos) (lE K (dSl rd de dl dh)) :=
  peOf (pe_slice hr he hl hu) fun σ H Q ⟨B, δ, S, k, s, r, h, q⟩ => ⟨B, δ, S, _, s, r, h, fun x S1 v B1 H1 h1 e1 r1 d1 => ⟨B1, δ, S1, _, s.mono e1, r1, h1, fun l S2 B2 H2 h2 e2 r2 => ⟨B2, δ, S2, _, s.mono (e1.trans e2), r2, h2, fun u S3 B3 H3 h3 e3 r3 =>
    hs B3 S3 H3 v x l u k Q r3 (d1.mono (e2.trans e3)) h3 fun z S' w B' H' hk e' r' d' => q z S' w B' H' hk (e1.trans (e2.trans (e3.trans e'))) r' d'⟩⟩⟩
def oSlL : D → Option Int → Option Int → Sto → DK → Prop := fun x l u S k => match x with
  | .list ds => k (.list (cutD ds l u)) S
  | .scr ds => k (.list (cutD ds l u)) S
  | .ref a => ∃ ds, S a = some (.lst ds) ∧ k (.list (cutD ds l u)) S
  | _ => False
theorem si_slL : SimS K (rSlL K) oSlL := fun B S H v x l u k Q r rx h1 q => by
  have main : ∀ ds, SeqD S x ds → (∃ p xs, v = .ref p ∧ SqL K H p xs ∧ RdL K B xs ds) → k (.list (cutD ds l u)) S → rSlL K v l u H Q := fun ds hs ⟨p, xs, hv, hp, rl⟩ h1 =>
    ⟨p, xs, hv, hp, fun z hz => by
      have n := r.new (o := .lst (cutV xs l u)) hz
      exact q _ S _ _ _ h1 n.2 n.1 (.lst upd_same ((rdl_cut rl l u).mono n.2))⟩
  unfold oSlL at h1
  split at h1
  · obtain ⟨a, xs, rfl, ha, rl⟩ := rd_list rx
    exact main _ rfl ⟨a, xs, rfl, sq_of (r.ex _ _ ha), rl⟩ h1
  · obtain ⟨a, xs, rfl, ha, rl⟩ := rd_scr rx
    exact main _ rfl ⟨a, xs, rfl, ex_l r.ex ha, rl⟩ h1
  · obtain ⟨ds, hs, h1⟩ := h1
    obtain ⟨xs, ha, rl⟩ := r.lst hs
    exact main ds hs ⟨_, xs, rd_ref rx, sq_of ha, rl⟩ h1
  · exact h1.elim
def oSlS : D → Option Int → Option Int → Sto → DK → Prop := fun x l u S k => match x with
  | .str z => z.length ≤ 100000 ∧ k (.str (cutS z l u)) S
  | _ => False
end
end DL

set_option Elab.async false
set_option linter.all false
set_option maxRecDepth 100000
namespace DL
open PySem L2 Evl EX
/-! ### calls of built-ins -/
section
variable {K : PySem.W.Frag}
theorem rdl1 {B : Hp} {vs : List V} {x : D} (h : RdL K B vs [x]) : ∃ v, vs = [v] ∧ RdD K B v x := by
  cases h with
  | cons h r => cases r; exact ⟨_, rfl, h⟩
theorem rdl2 {B : Hp} {vs : List V} {x y : D} (h : RdL K B vs [x, y]) : ∃ v w, vs = [v, w] ∧ RdD K B v x ∧ RdD K B w y := by
  cases h with
  | cons h r =>
    obtain ⟨w, rfl, hw⟩ := rdl1 r
    exact ⟨_, w, rfl, h, hw⟩
/-- len -/
def oLen : List D → Sto → DK → Prop := fun xs S k => match xs with
  | [.str z] => z.length ≤ 100000 ∧ k (.int z.length) S
  | [x] => ∃ ds, SeqD S x ds ∧ k (.int ds.length) S
  | _ => False
theorem si_len {X : Cx} (hk : X.K = K) : SimC K (fun xs H Q => ∃ x n, xs = [x] ∧ LenV X.K x H n ∧ Q (.int n) H) oLen := fun B S H vs xs k Q r rx h1 q => by
  subst hk
  unfold oLen at h1
  split at h1
  · rename_i z
    obtain ⟨v, rfl, rv⟩ := rdl1 rx
    cases rd_str rv
    exact ⟨_, z.length, rfl, ⟨sz_of h1.1, rfl⟩, q _ S _ B H h1.2 (Ex.refl B) r (.int _)⟩
  · rename_i x hx
    obtain ⟨v, rfl, rv⟩ := rdl1 rx
    obtain ⟨ds, hs, h1⟩ := h1
    obtain ⟨p, xs, rfl, hp, rl⟩ := seqD_ok hs r rv
    refine ⟨_, xs.length, rfl, ?_, by rw [rl.length]; exact q _ S _ B H h1 (Ex.refl B) r (.int _)⟩
    rcases hp with hp | hp
    · exact .inl ⟨xs, hp, rfl⟩
    · exact .inr ⟨xs, hp, rfl⟩
  · exact h1.elim
def oLenD : List D → Sto → DK → Prop := fun xs S k => match xs with
  | [.ref a] => ∃ kvs, S a = some (.dct kvs) ∧ k (.int kvs.length) S
  | _ => False
theorem rdkv_len {κ : Type} {B : Hp} : ∀ {l : List (κ × V)} {m : List (κ × D)}, RdKV K B l m → l.length = m.length := fun h => Paired.length h
def oI1 (f : Int → D) : List D → Sto → DK → Prop := fun xs S k => match xs with
  | [.int i] => k (f i) S
  | _ => False
def oI2 (f : Int → Int → D) : List D → Sto → DK → Prop := fun xs S k => match xs with
  | [.int i, .int j] => k (f i j) S
  | _ => False
theorem si_abs : SimC K (fun xs H Q => ∃ i, xs = [.int i] ∧ Q (.int (if i < 0 then -i else i)) H) (oI1 fun i => .int (if i < 0 then -i else i)) := fun B S H vs xs k Q r rx h1 q => by
  unfold oI1 at h1
  split at h1
  · obtain ⟨v, rfl, rv⟩ := rdl1 rx
    cases rd_int rv
    exact ⟨_, rfl, q _ S _ B H h1 (Ex.refl B) r (.int _)⟩
  · exact h1.elim
theorem si_min2 : SimC K (fun xs H Q => ∃ i j, xs = [.int i, .int j] ∧ Q (.int (if j < i then j else i)) H) (oI2 fun i j => .int (if j < i then j else i)) := fun B S H vs xs k Q r rx h1 q => by
  unfold oI2 at h1
  split at h1
  · obtain ⟨v, w, rfl, rv, rw'⟩ := rdl2 rx
    cases rd_int rv
    cases rd_int rw'
    exact ⟨_, _, rfl, q _ S _ B H h1 (Ex.refl B) r (.int _)⟩
  · exact h1.elim
def oInt1 : List D → Sto → DK → Prop := fun xs S k => match xs with
  | [.int i] => k (.int i) S
  | [.bl b] => k (.int (if b then 1 else 0)) S
  | _ => False
theorem si_int1 : SimC K (fun xs H Q => (∃ i, xs = [.int i] ∧ Q (.int i) H) ∨ ∃ k, xs = [.bl k] ∧ Q (.int (if k then 1 else 0)) H) oInt1 := fun B S H vs xs k Q r rx h1 q => by
  unfold oInt1 at h1
  split at h1
  · obtain ⟨v, rfl, rv⟩ := rdl1 rx
    cases rd_int rv
    exact .inl ⟨_, rfl, q _ S _ B H h1 (Ex.refl B) r (.int _)⟩
  · obtain ⟨v, rfl, rv⟩ := rdl1 rx
    cases rd_bl rv
    exact .inr ⟨_, rfl, q _ S _ B H h1 (Ex.refl B) r (.int _)⟩
  · exact h1.elim
def oIntS : List D → Sto → DK → Prop := fun xs S k => match xs with
  | [.str a] => ∃ n, PySem.intText? a = some n ∧ a.length ≤ 640 ∧ k (.int n) S
  | _ => False
def oStr : List D → Sto → DK → Prop := fun xs S k => match xs with
  | [.int i] => i.natAbs.log2 < 1920 ∧ k (.str (toString i)) S
  | [.str a] => k (.str a) S
  | _ => False
/-- list(xs): a new list, told once for all; list(xs) that will change -/
def oList : List D → Sto → DK → Prop := fun xs S k => match xs with
  | [x] => ∃ ds, SeqD S x ds ∧ k (.list ds) S
  | _ => False
theorem si_list : SimC K (rListS K) oList := fun B S H vs xs k Q r rx h1 q => by
  unfold oList at h1
  split at h1
  · obtain ⟨v, rfl, rv⟩ := rdl1 rx
    obtain ⟨ds, hs, h1⟩ := h1
    obtain ⟨p, ys, rfl, hp, rl⟩ := seqD_ok hs r rv
    refine ⟨p, ys, rfl, hp, fun l hl => ?_⟩
    have n := r.new (o := .lst ys) hl
    exact q _ S _ _ _ h1 n.2 n.1 (.lst upd_same (rl.mono n.2))
  · exact h1.elim
def oListN : List D → Sto → DK → Prop := fun xs S k => match xs with
  | [x] => ∃ ds, SeqD S x ds ∧ ∀ p, S p = none → k (.ref p) (put S p (.lst ds))
  | _ => False
theorem si_listN : SimC K (rListS K) oListN := fun B S H vs xs k Q r rx h1 q => by
  unfold oListN at h1
  split at h1
  · obtain ⟨v, rfl, rv⟩ := rdl1 rx
    obtain ⟨ds, hs, h1⟩ := h1
    obtain ⟨p, ys, rfl, hp, rl⟩ := seqD_ok hs r rv
    exact ⟨p, ys, rfl, hp, fun l hl => q _ _ _ B _ (h1 l (r.fresh hl).2) (Ex.refl B) (r.newS hl (.lst rl)) (.ref l)⟩
  · exact h1.elim
def oTuple : List D → Sto → DK → Prop := fun xs S k => match xs with
  | [x] => ∃ ds, SeqD S x ds ∧ k (.tup ds) S
  | _ => False
/-! any, all, sum over lists -/
theorem rdl_of_map {α : Type} {B : Hp} {f : α → D} {g : α → V} (h : ∀ v a, RdD K B v (f a) → v = g a) : ∀ {vs : List V} (as : List α), RdL K B vs (as.map f) → vs = as.map g
  | _, [], .nil => rfl
  | _, a :: as, .cons hd r => by rw [h _ a hd, rdl_of_map h as r]; rfl
def oAny : List D → Sto → DK → Prop := fun xs S k => match xs with
  | [.list ds] => ∃ bs : List Bool, ds = bs.map D.bl ∧ k (.bl (bs.any id)) S
  | _ => False
def oAll : List D → Sto → DK → Prop := fun xs S k => match xs with
  | [.list ds] => ∃ bs : List Bool, ds = bs.map D.bl ∧ k (.bl (bs.all id)) S
  | _ => False
theorem si_all : SimC K (rAll K) oAll := fun B S H vs xs k Q r rx h1 q => by
  unfold oAll at h1
  split at h1
  · obtain ⟨v, rfl, rv⟩ := rdl1 rx
    obtain ⟨bs, rfl, h1⟩ := h1
    obtain ⟨a, xs, rfl, ha, rl⟩ := rd_list rv
    have e := rdl_of_map (g := V.bl) (fun v b h => rd_bl h) bs rl
    subst e
    exact ⟨a, bs, rfl, sq_of (r.ex _ _ ha), q _ S _ B H h1 (Ex.refl B) r (.bl _)⟩
  · exact h1.elim
def oSum : List D → Sto → DK → Prop := fun xs S k => match xs with
  | [.list ds] => ∃ ns : List Int, ds = ns.map D.int ∧ k (.int ns.sum) S
  | _ => False
theorem crSum {X : Cx} (hc : X.calm = true) (h : X.K = K := by rfl) : CallR X (.builtin "sum") (rSum K) := h ▸ cr_sum hc
theorem si_sum : SimC K (rSum K) oSum := fun B S H vs xs k Q r rx h1 q => by
  unfold oSum at h1
  split at h1
  · obtain ⟨v, rfl, rv⟩ := rdl1 rx
    obtain ⟨bs, rfl, h1⟩ := h1
    obtain ⟨a, xs, rfl, ha, rl⟩ := rd_list rv
    have e := rdl_of_map (g := V.int) (fun v b h => rd_int h) bs rl
    subst e
    exact ⟨a, bs, rfl, sq_of (r.ex _ _ ha), q _ S _ B H h1 (Ex.refl B) r (.int _)⟩
  · exact h1.elim
/-! sorted -/
def oSortI : List D → Sto → DK → Prop := fun xs S k => match xs with
  | [x] => ∃ ns : List Int, SeqD S x (ns.map D.int) ∧ (∀ ds, x ≠ .tup ds) ∧ ∀ ms : List Int, ms.Perm ns → ms.Pairwise (· ≤ ·) → k (.list (ms.map D.int)) S
  | _ => False
theorem crSortI {X : Cx} (h : X.K = K := by rfl) : CallR X (.builtin "sorted") (rSortedI K) := h ▸ cr_sortedI
theorem seqL_ok {B H : Hp} {S : Sto} {v : V} {x : D} {ds : List D} (h : SeqD S x ds) (ht : ∀ ds, x ≠ .tup ds) (r : R K B S H) (rx : RdD K B v x) : ∃ p xs, v = .ref p ∧ SqL K H p xs ∧ RdL K B xs ds := by
  unfold SeqD at h
  split at h
  · subst h
    obtain ⟨a, xs, rfl, ha, rl⟩ := rd_list rx
    exact ⟨a, xs, rfl, sq_of (r.ex _ _ ha), rl⟩
  · subst h
    obtain ⟨a, xs, rfl, ha, rl⟩ := rd_scr rx
    exact ⟨a, xs, rfl, ex_l r.ex ha, rl⟩
  · exact absurd rfl (ht _)
  · obtain ⟨xs, ha, rl⟩ := r.lst h
    exact ⟨_, xs, rd_ref rx, sq_of ha, rl⟩
  · exact h.elim
theorem si_sortI : SimC K (rSortedI K) oSortI := fun B S H vs xs k Q r rx h1 q => by
  unfold oSortI at h1
  split at h1
  · obtain ⟨v, rfl, rv⟩ := rdl1 rx
    obtain ⟨ns, hs, ht, h1⟩ := h1
    obtain ⟨p, ys, rfl, hp, rl⟩ := seqL_ok hs ht r rv
    have e := rdl_of_map (g := V.int) (fun v b h => rd_int h) ns rl
    subst e
    refine ⟨p, ns, rfl, hp, fun ms l pm pw hl => ?_⟩
    have n := r.new (o := .lst (ms.map V.int)) hl
    exact q _ S _ _ _ (h1 ms pm pw) n.2 n.1 (.lst upd_same (rdl_ints ms))
  · exact h1.elim
def oSortS : List D → Sto → DK → Prop := fun xs S k => match xs with
  | [x] => ∃ ns : List Str, SeqD S x (ns.map D.str) ∧ ns.length < 64 ∧ (∀ ds, x ≠ .tup ds) ∧ ∀ ms : List Str, ms.Perm ns → PyProof.Rows.sortedS ms = true → k (.list (ms.map D.str)) S
  | _ => False
/-! isinstance -/
def tyD (S : Sto) : D → Option String
  | .non => some "NoneType"
  | .bl _ => some "bool"
  | .int _ => some "int"
  | .str _ => some "str"
  | .list _ => some "list"
  | .scr _ => some "list"
  | .tup _ => some "tuple"
  | .ref a => match S a with
    | some (.lst _) => some "list"
    | some (.dct _) => some "dict"
    | _ => none
  | .ty _ => none
def isB (t c : String) : Bool := t == c || (t == "bool" && c == "int")
def Ts : List String := ["NoneType", "bool", "int", "str", "list", "tuple", "dict"]
def Cs : List String := ["bool", "int", "str", "list", "tuple", "dict"]
theorem isB_ok : ∀ t ∈ Ts, ∀ c ∈ Cs, kitB t c = some (isB t c) := by decide +kernel
theorem tyD_mem {S : Sto} {x : D} {t : String} (h : tyD S x = some t) : t ∈ Ts := by
  unfold tyD at h
  split at h <;> first | (cases h; decide) | (split at h <;> first | (cases h; decide) | cases h) | cases h
theorem tyD_ok {B H : Hp} {S : Sto} {v : V} {x : D} {t : String} (h : tyD S x = some t) (r : R K B S H) (rx : RdD K B v x) : TyX K H v (.type t) := by
  cases rx with
  | non => cases h; exact .base .non
  | bl b => cases h; exact .base (.bl b)
  | int i => cases h; exact .base (.int i)
  | str z => cases h; exact .base (.str z)
  | ty n => cases h
  | lst ha rl => cases h; exact .base (.lst (r.ex _ _ ha))
  | tup ha rl =>
    cases h
    rcases ex_t r.ex ha with (ha | ⟨o, ha⟩) | ⟨o, its, n, h1, h2, _⟩
    · exact .base (.tup ha)
    · exact .fTuple ha
    · exact .kTuple h1 h2
  | scr ha rl =>
    cases h
    rcases ex_l r.ex ha with (ha | ⟨o, ha⟩) | ⟨o, its, n, h1, h2, _⟩
    · exact .base (.lst ha)
    · exact .base (.frz ha)
    · exact .kList h1 h2
  | ref a =>
    simp only [tyD] at h
    split at h
    · rename_i ds e
      cases h
      obtain ⟨xs, ha, _⟩ := r.lst e
      exact .base (.lst ha)
    · rename_i ds e
      cases h
      obtain ⟨xs, ha, _⟩ := r.dct e
      exact .base (.dK ha)
    · cases h
def oIsi : List D → Sto → DK → Prop := fun xs S k => match xs with
  | [x, .ty c] => ∃ t, tyD S x = some t ∧ c ∈ Cs ∧ k (.bl (isB t c)) S
  | _ => False
theorem clIsi' {X : Cx} (h : X.K = K := by rfl) : CallR X (.builtin "isinstance") (rIsi K) := h ▸ call_isi
def dIsiT (c1 c2 : String) (de : DE) : DE := fun δ S k => de δ S fun x S1 => ∃ t, tyD S1 x = some t ∧ c1 ∈ Cs ∧ c2 ∈ Cs ∧ k (.bl (isB t c1 || isB t c2)) S1
end
end DL

set_option Elab.async false
set_option linter.all false
set_option maxRecDepth 100000
namespace DL
open PySem L2 Evl EX
/-! ### methods of lists and texts -/
abbrev DM := D → List D → Sto → DK → Prop
def SimM (K : PySem.W.Frag) (r : V → List V → Hp → VK → Prop) (rd : DM) : Prop := ∀ (B : Hp) (S : Sto) (H : Hp) (v : V) (x : D) (vs : List V) (xs : List D) (k : DK) (Q : VK), R K B S H → RdD K B v x → RdL K B vs xs → rd x xs S k →
  (∀ z S' u B' H', k z S' → Ex B B' → R K B' S' H' → RdD K B' u z → Q u H') → r v vs H Q
/-- a method of a list -/
def IsL (S : Sto) : D → Prop
  | .ref a => ∃ ds, S a = some (.lst ds)
  | .list _ => True
  | .scr _ => True
  | _ => False
theorem isL_ok {K : PySem.W.Frag} {B H : Hp} {S : Sto} {v : V} {x : D} (h : IsL S x) (r : R K B S H) (rx : RdD K B v x) : tyV K "list" v H := by
  cases rx with
  | ref a =>
    obtain ⟨ds, h⟩ := h
    obtain ⟨xs, ha, _⟩ := r.lst h
    exact .inl ⟨rfl, xs, sq_of ha⟩
  | lst ha rl => exact .inl ⟨rfl, _, sq_of (r.ex _ _ ha)⟩
  | scr ha rl => exact .inl ⟨rfl, _, ex_l r.ex ha⟩
  | _ => exact h.elim
def dML (rd : DM) (do' : DE) (da : DA) : DE := fun δ S k => do' δ S fun x S1 => IsL S1 x ∧ da δ S1 fun xs S2 => rd x xs S2 k
def dMS (rd : DM) (do' : DE) (da : DA) : DE := fun δ S k => do' δ S fun x S1 => match x with
  | .str z => da δ S1 fun xs S2 => rd (.str z) xs S2 k
  | _ => False
section
variable {X : Cx} {K : PySem.W.Frag} {W : WXD} {o e : Expr} {es : List Expr} {dO : DE} {da : DA} {name : Str} {apos cpos : Pos} {id : String} {r : V → List V → Hp → VK → Prop} {rd : DM}
theorem de_ml (slot : Slot "list" name id) (hty : typeOf (.builtin id) = pure (.type "method_descriptor")) (hm : MtR X id r) (hs' : SimM K r rd) (ho : PE X o (lE K dO)) (ha : PA X (e :: es) (lA K da))
    (hbase : attributeBase o name X.env (eval o X.env) = eval o X.env := by rfl)
    (hfew : ((backTo cpos (starEach (e :: es) X.env)).all (fun x => !x.1) && (backToKw cpos (keywordEach [] X.env)).all (fun x => x.1.isSome)
      && decide ((e :: es).length + ([] : List Keyword).length + (if ([] : List Keyword).isEmpty then 0 else 1) < 30)) = true := by rfl)
    (hline : (apos.endLine == cpos.line) = true := by rfl) (hs : starEach (e :: es) X.env = (false, eval e X.env) :: starEach es X.env := by rfl) (hplain : (backTo cpos (starEach es X.env)).any (·.1) = false := by rfl) (h : X.K = K := by rfl) :
    PE X (.Call (.Attribute o name apos) (e :: es) [] cpos) (lE K (dML rd dO da)) := peOf (peBm (K := K) PySem.F.plainAttrs_list slot hty hm ho ha hbase hfew hline hs hplain h) fun σ H Q ⟨B, δ, S, k, s, r, h, q⟩ =>
  ⟨B, δ, S, _, s, r, h, fun x S1 v B1 H1 ⟨hl, h1⟩ e1 r1 d1 => ⟨isL_ok hl r1 d1, B1, δ, S1, _, s.mono e1, r1, h1, fun xs S2 vs B2 H2 h2 e2 r2 d2 => hs' B2 S2 H2 v x vs xs k Q r2 (d1.mono e2) d2 h2 fun z S' u B' H' hk e' r' d' => q z S' u B' H' hk (e1.trans (e2.trans e')) r' d'⟩⟩
theorem de_ml0 (slot : Slot "list" name id) (hty : typeOf (.builtin id) = pure (.type "method_descriptor")) (hm : MtR X id r) (hs' : SimM K r rd) (ho : PE X o (lE K dO))
    (hbase : attributeBase o name X.env (eval o X.env) = eval o X.env := by rfl) (hline : (apos.endLine == cpos.line) = true := by rfl) (h : X.K = K := by rfl) :
    PE X (.Call (.Attribute o name apos) [] [] cpos) (lE K (dML rd dO dNil)) := peOf (pe_bm0 PySem.F.plainAttrs_list slot hty hm ho hbase hline) fun σ H Q ⟨B, δ, S, k, s, r, hh, q⟩ =>
  ⟨B, δ, S, _, s, r, hh, fun x S1 v B1 H1 ⟨hl, h1⟩ e1 r1 d1 => ⟨by subst h; exact isL_ok hl r1 d1, hs' B1 S1 H1 v x [] [] k Q r1 d1 .nil h1 fun z S' u B' H' hk e' r' d' => q z S' u B' H' hk (e1.trans e') r' d'⟩⟩
end
section
variable {K : PySem.W.Frag}
def oApp : DM := fun x xs S k => match x, xs with
  | .ref a, [y] => ∃ ds, S a = some (.lst ds) ∧ ds.length < 100000 ∧ k .non (put S a (.lst (ds ++ [y])))
  | _, _ => False
theorem si_app : SimM K rAppend oApp := fun B S H v x vs xs k Q r rx rl h1 q => by
  unfold oApp at h1
  split at h1
  · obtain ⟨w, rfl, rw'⟩ := rdl1 rl
    obtain ⟨ds, hs, hl, h1⟩ := h1
    obtain ⟨ys, ha, rr⟩ := r.lst hs
    cases rd_ref rx
    exact ⟨_, ys, w, rfl, rfl, ha, sz_lt (by rw [rr.length]; exact hl), q _ _ _ B _ h1 (Ex.refl B) (r.mut hs (.lst (rr.append (.one rw')))) .non⟩
  · exact h1.elim
def oExt : DM := fun x xs S k => match x, xs with
  | .ref a, [.list es] => ∃ ds, S a = some (.lst ds) ∧ ds.length + es.length ≤ 100000 ∧ k .non (put S a (.lst (ds ++ es)))
  | _, _ => False
theorem si_ext : SimM K rExtend oExt := fun B S H v x vs xs k Q r rx rl h1 q => by
  unfold oExt at h1
  split at h1
  · obtain ⟨w, rfl, rw'⟩ := rdl1 rl
    obtain ⟨ds, hs, hl, h1⟩ := h1
    obtain ⟨ys, ha, rr⟩ := r.lst hs
    obtain ⟨b, zs, rfl, hb, rz⟩ := rd_list rw'
    cases rd_ref rx
    exact ⟨_, b, ys, zs, rfl, rfl, ha, r.ex _ _ hb, sz_of (by rw [rr.length, rz.length]; exact hl), q _ _ _ B _ h1 (Ex.refl B) (r.mut hs (.lst (rr.append rz))) .non⟩
  · exact h1.elim
def oPop : DM := fun x xs S k => match x, xs with
  | .ref a, [] => ∃ ds y, S a = some (.lst (ds ++ [y])) ∧ k y (put S a (.lst ds))
  | _, _ => False
theorem RdL.snoc {B : Hp} {xs : List V} {ds : List D} {d : D} (h : RdL K B xs (ds ++ [d])) : ∃ ys v, xs = ys ++ [v] ∧ RdL K B ys ds ∧ RdD K B v d := by
  have hl := h.length
  have h1 := h.take ds.length
  have h2 := h.drop ds.length
  rw [List.take_left'] at h1
  · rw [List.drop_left'] at h2
    · cases hx : xs.drop ds.length with
      | nil => rw [hx] at h2; cases h2
      | cons v r =>
        rw [hx] at h2
        cases h2 with
        | cons hd hr =>
          cases hr
          refine ⟨xs.take ds.length, v, ?_, h1, hd⟩
          rw [← hx, List.take_append_drop]
    · rfl
  · rfl
theorem si_pop : SimM K rPop oPop := fun B S H v x vs xs k Q r rx rl h1 q => by
  unfold oPop at h1
  split at h1
  · cases rl
    obtain ⟨ds, y, hs, h1⟩ := h1
    obtain ⟨ys, ha, rr⟩ := r.lst hs
    obtain ⟨zs, w, rfl, rz, rw'⟩ := rr.snoc
    cases rd_ref rx
    refine ⟨_, zs ++ [w], w, rfl, rfl, ha, by simp, ?_⟩
    rw [List.dropLast_concat]
    exact q _ _ _ B _ h1 (Ex.refl B) (r.mut hs (.lst rz)) rw'
  · exact h1.elim
/-- xs.pop(0) -/
def oPop0 : DM := fun x xs S k => match x, xs with
  | .ref a, [.int 0] => ∃ ds y, S a = some (.lst (y :: ds)) ∧ k y (put S a (.lst ds))
  | _, _ => False
theorem si_pop0 : SimM K rPopAt oPop0 := fun B S H v x vs xs k Q r rx rl h1 q => by
  unfold oPop0 at h1
  split at h1
  · obtain ⟨w, rfl, rw'⟩ := rdl1 rl
    obtain ⟨ds, y, hs, h1⟩ := h1
    obtain ⟨ys, ha, rr⟩ := r.lst hs
    cases rr with
    | cons hy rr =>
      cases rd_ref rx
      cases rd_int rw'
      exact ⟨_, _, 0, 0, _, rfl, rfl, ha, by decide, by decide, by simp [seqIndex?], rfl, q _ _ _ B _ h1 (Ex.refl B) (r.mut hs (.lst rr)) hy⟩
  · exact h1.elim
/-! texts -/
def oSS (f : Str → Str → D) : DM := fun x xs S k => match x, xs with
  | .str a, [.str b] => k (f a b) S
  | _, _ => False
def oSSc (C : Str → Str → Prop) (f : Str → Str → D) : DM := fun x xs S k => match x, xs with
  | .str a, [.str b] => C a b ∧ k (f a b) S
  | _, _ => False
def oSSI (f : Str → Str → Int → D) : DM := fun x xs S k => match x, xs with
  | .str a, [.str b, .int i] => k (f a b i) S
  | _, _ => False
/-- a.split(b) -/
def dSplit (da db : DE) : DE := fun δ S k => da δ S fun x S1 => match x with
  | .str a => db δ S1 fun y S2 => match y with
    | .str b => (b.length == 0) = false ∧ a.length + 2 ≤ 100000 ∧ k (.list ((Txt.split a b).map D.str)) S2
    | _ => False
  | _ => False
/-- a.join(xs) -/
def dJoin (da db : DE) : DE := fun δ S k => da δ S fun x S1 => match x with
  | .str a => db δ S1 fun y S2 => ∃ ys : List Str, SeqD S2 y (ys.map D.str) ∧ (ys.map (·.length)).sum + ys.length * a.length ≤ 16777216 ∧ k (.str (Txt.join a ys)) S2
  | _ => False
end
section
variable {X : Cx} {K : PySem.W.Frag} {W : WXD} {o e : Expr} {dO de : DE} {apos pos : Pos}
/-! x op= e -/
def dAug (i : Nat) (f : Int → Int → Int) (de : DE) : DS := fun D δ S => match δ[i]? with
  | some (some (.int a)) => de δ S fun y S1 => match y with
    | .int b => D.nx (δ.set i (some (.int (f a b)))) S1
    | _ => False
  | _ => False
end
end DL

set_option Elab.async false
set_option linter.all false
set_option maxRecDepth 100000
namespace DL
open PySem L2 Evl EX
/-! ### == at any depth -/
mutual
def D.py : D → PyData
  | .bl b => .bool b
  | .int i => .int i
  | .str x => .str x
  | .list ds => .list (pyL ds)
  | .scr ds => .list (pyL ds)
  | .tup ds => .tuple (pyL ds)
  | _ => .none
def pyL : List D → List PyData
  | [] => []
  | d :: ds => d.py :: pyL ds
end
mutual
/-- data of numbers (or, f: of truth values), texts (well made), None, lists, tuples -/
def D.nbG (f : Bool) : D → Bool
  | .non => true
  | .int _ => !f
  | .bl _ => f
  | .str x => PyData.strOk x
  | .list ds => nbGL f ds
  | .tup ds => nbGL f ds
  | _ => false
def nbGL (f : Bool) : List D → Bool
  | [] => true
  | d :: ds => d.nbG f && nbGL f ds
end
abbrev D.nb (d : D) : Bool := d.nbG false
abbrev nbL (ds : List D) : Bool := nbGL false ds
mutual
def D.deep : D → Nat
  | .list ds => deepL ds + 1
  | .tup ds => deepL ds + 1
  | _ => 0
def deepL : List D → Nat
  | [] => 0
  | d :: ds => max d.deep (deepL ds)
end
mutual
theorem py_lay {f : Bool} : ∀ d : D, d.nbG f = true → d.py.canLay0 = true
  | .non, _ => rfl
  | .int _, _ => rfl
  | .str x, h => by simpa [D.nbG, D.py, PyData.canLay0] using h
  | .list ds, h => by
    rw [D.nbG] at h
    rw [D.py, PyData.canLay0]
    exact pyL_lay ds h
  | .tup ds, h => by
    rw [D.nbG] at h
    rw [D.py, PyData.canLay0]
    exact pyL_lay ds h
  | .bl _, h => rfl
  | .ref _, h => by cases h
  | .ty _, h => by cases h
  | .scr _, h => by simp [D.nbG] at h
theorem pyL_lay {f : Bool} : ∀ ds : List D, nbGL f ds = true → PyData.canLayAll0 (pyL ds) = true
  | [], _ => rfl
  | d :: ds, h => by
    rw [nbGL, Bool.and_eq_true] at h
    rw [pyL, PyData.canLayAll0, py_lay d h.1, pyL_lay ds h.2]
    rfl
end
mutual
theorem py_deep {f : Bool} : ∀ d : D, d.nbG f = true → d.py.depth = d.deep
  | .non, _ => rfl
  | .int _, _ => rfl
  | .str x, h => rfl
  | .list ds, h => by
    rw [D.nbG] at h
    rw [D.py, PyData.depth, D.deep, pyL_deep ds h]
  | .tup ds, h => by
    rw [D.nbG] at h
    rw [D.py, PyData.depth, D.deep, pyL_deep ds h]
  | .bl _, h => rfl
  | .ref _, h => by cases h
  | .ty _, h => by cases h
  | .scr _, h => by simp [D.nbG] at h
theorem pyL_deep {f : Bool} : ∀ ds : List D, nbGL f ds = true → PyData.depthAll (pyL ds) = deepL ds
  | [], _ => rfl
  | d :: ds, h => by
    rw [nbGL, Bool.and_eq_true] at h
    rw [pyL, PyData.depthAll, deepL, py_deep d h.1, pyL_deep ds h.2]
end
mutual
theorem py_inj {f : Bool} : ∀ d e : D, d.nbG f = true → e.nbG f = true → PyData.eqv d.py e.py = true → d = e
  | .non, e, _, he, h => by cases e <;> first | rfl | (simp [D.py, PyData.eqv] at h; done) | (simp [D.nbG] at he; done)
  | .int i, e, hd, he, h => by
    cases e with
    | int j => simp [D.py, PyData.eqv] at h; rw [h]
    | bl b => simp [D.nbG] at hd he; rw [hd] at he; cases he
    | _ => first | (simp [D.py, PyData.eqv] at h; done) | (simp [D.nbG] at he; done)
  | .str x, e, _, he, h => by
    cases e with
    | str y => simp [D.py, PyData.eqv] at h; rw [h]
    | _ => first | (simp [D.py, PyData.eqv] at h; done) | (simp [D.nbG] at he; done)
  | .list ds, e, hd, he, h => by
    cases e with
    | list es =>
      rw [D.nbG] at hd he
      rw [D.py, D.py, PyData.eqv] at h
      rw [pyL_inj ds es hd he h]
    | _ => first | (simp [D.py, PyData.eqv] at h; done) | (simp [D.nbG] at he; done)
  | .tup ds, e, hd, he, h => by
    cases e with
    | tup es =>
      rw [D.nbG] at hd he
      rw [D.py, D.py, PyData.eqv] at h
      rw [pyL_inj ds es hd he h]
    | _ => first | (simp [D.py, PyData.eqv] at h; done) | (simp [D.nbG] at he; done)
  | .bl b, e, hd, he, h => by
    cases e with
    | bl c => simp [D.py, PyData.eqv] at h; rw [h]
    | int i => simp [D.nbG] at hd he; rw [hd] at he; cases he
    | _ => first | (simp [D.py, PyData.eqv] at h; done) | (simp [D.nbG] at he; done)
  | .ref _, _, hd, _, _ => by cases hd
  | .ty _, _, hd, _, _ => by cases hd
  | .scr _, _, hd, _, _ => by simp [D.nbG] at hd
theorem pyL_inj {f : Bool} : ∀ ds es : List D, nbGL f ds = true → nbGL f es = true → PyData.eqvAll (pyL ds) (pyL es) = true → ds = es
  | [], [], _, _, _ => rfl
  | [], _ :: _, _, _, h => by simp [pyL, PyData.eqvAll] at h
  | _ :: _, [], _, _, h => by simp [pyL, PyData.eqvAll] at h
  | d :: ds, e :: es, hd, he, h => by
    rw [nbGL, Bool.and_eq_true] at hd he
    rw [pyL, pyL, PyData.eqvAll, Bool.and_eq_true] at h
    rw [py_inj d e hd.1 he.1 h.1, pyL_inj ds es hd.2 he.2 h.2]
end
section
variable {K : PySem.W.Frag} {B H : Hp}
mutual
theorem dp_of {f : Bool} (e : Ex B H) : ∀ {v : V} {d : D}, RdD K B v d → d.nbG f = true → Dp K H v d.py
  | _, _, .non, _ => .non
  | _, _, .int i, _ => .int i
  | _, _, .str x, _ => .str x
  | _, _, .lst ha r, h => by
    rw [D.nbG] at h
    rw [D.py]
    exact .lst (sq_of (e _ _ ha)) (dpL_of e r h)
  | _, _, .tup ha r, h => by
    rw [D.nbG] at h
    rw [D.py]
    exact .tup (ex_t e ha) (dpL_of e r h)
  | _, _, .bl b, h => .bl b
  | _, _, .ref _, h => by cases h
  | _, _, .ty _, h => by cases h
  | _, _, .scr _ _, h => by simp [D.nbG] at h
theorem dpL_of {f : Bool} (e : Ex B H) : ∀ {vs : List V} {ds : List D}, RdL K B vs ds → nbGL f ds = true → DpAll K H vs (pyL ds)
  | _, _, .nil, _ => .nil
  | _, _, .cons h r, hn => by
    rw [nbGL, Bool.and_eq_true] at hn
    rw [pyL]
    exact .cons (dp_of e h hn.1) (dpL_of e r hn.2)
end
/-- a list of the store told by what it holds -/
def res (S : Sto) : D → D
  | .ref a => match S a with
    | some (.lst ds) => .list ds
    | _ => .ref a
  | x => x
end
section
variable {X : Cx} {K : PySem.W.Frag}
def rEqM (K : PySem.W.Frag) (neg : Bool) : R2 := fun x y H Q => ∃ d e, Dp K H x d ∧ Dp K H y e ∧ d.canLay0 = true ∧ e.canLay0 = true ∧ min d.depth e.depth ≤ 64 ∧ Q (.bl (if neg then !PyData.eqv d e else PyData.eqv d e)) H
theorem op_neM (hu : X.A.units + 64 < cLine) (hk : X.K = K := by rfl) : OpR X (compareOp .NotEq) (rEqM K true) := by
  intro pins s σ H x y v u Q I rx ry h
  subst hk
  obtain ⟨d, e, hd, he, sd, se, hm, q⟩ := h
  obtain ⟨as, r1⟩ := Dp.reads I d x v hd rx
  obtain ⟨bs, r2⟩ := Dp.reads I e y u he ry
  exact SeqAt.compareNe_reads r1 r2 sd se (by omega) ⟨.bl _, H, I, rfl, q⟩
open Classical in
def oEqD (neg : Bool) : DR2 := fun x y S k => ∃ f, (res S x).nbG f = true ∧ (res S y).nbG f = true ∧ min (res S x).deep (res S y).deep ≤ 64 ∧ k (.bl (if neg then !decide (res S x = res S y) else decide (res S x = res S y))) S
/-! x in xs, a list of data -/
open Classical in
def oInD (neg : Bool) : DR2 := fun x y S k => ∃ ds, y = .list ds ∧ x.nb = true ∧ nbL ds = true ∧ x.deep ≤ 64 ∧ deepL ds ≤ 60 ∧ k (.bl (if neg then !decide (x ∈ ds) else decide (x ∈ ds))) S
end
end DL

set_option Elab.async false
set_option linter.all false
set_option maxRecDepth 100000
/-! ### draws, told over data -/
namespace DL
open PySem L2 Evl EX
section
variable {K : PySem.W.Frag} {B H H' : Hp} {S : Sto}
/-- all that is new stands fast -/
theorem R.grow (r : R K B S H) (e : Ex H H') : ∃ B', Ex B B' ∧ R K B' S H' ∧ ∀ a o, H' a = some o → S a = none → B' a = some o := by
  refine ⟨fun a => if (S a).isSome then none else H' a, fun a o h => ?_, ⟨fun a o h => ?_, fun a o h => ?_⟩, fun a o h n => ?_⟩
  · have hs : S a = none := by
      cases q : S a with
      | none => rfl
      | some u => rw [(r.own a u q).1] at h; cases h
    show (if (S a).isSome = true then none else H' a) = some o
    rw [hs]
    exact e a o (r.ex a o h)
  · have h' : (if (S a).isSome = true then none else H' a) = some o := h
    split at h'
    · cases h'
    · exact h'
  · obtain ⟨n, ho, h1, h2⟩ := r.own a o h
    refine ⟨?_, ho, e a ho h1, h2.mono fun b u hb => ?_⟩
    · show (if (S a).isSome = true then none else H' a) = none
      rw [h]
      rfl
    · have hs : S b = none := by
        cases q : S b with
        | none => rfl
        | some u => rw [(r.own b u q).1] at hb; cases hb
      show (if (S b).isSome = true then none else H' b) = some u
      rw [hs]
      exact e b u (r.ex b u hb)
  · show (if (S a).isSome = true then none else H' a) = some o
    rw [n]
    exact h
end
section
variable {P : Program} {w : World} {K : PySem.W.Frag} {mg : Str → Option Value} {base : Heap} {k : Nat} {f : Addr} {fd : FuncData} {ps : List Str}
end
end DL

set_option Elab.async false
set_option linter.all false
set_option maxRecDepth 100000
/-! ### stepping: readings over data, rewritten from the head on -/
namespace DL
open PySem L2 Evl EX
/-- what is marked is not rewritten within -/
structure Tag {α : Sort _} (a : α) : Type where
/-- an open choice -/
def branch (b : Bool) (A B : Prop) (_ : Tag (fun x : Bool => if x = true then A else B)) : Prop := if b = true then A else B
/-- a slot that is read -/
def rdv (o : Option (Option D)) (S : Sto) (k : DK) (_ : Tag k) : Prop := match o with
  | some (some d) => k d S
  | _ => False
def tst (x : D) (S : Sto) (k : Bool → Sto → Prop) (_ : Tag k) : Prop := match x with
  | .bl b => k b S
  | _ => False
def tstV (x : D) (k : Bool → Prop) (_ : Tag k) : Prop := match x with
  | .bl b => k b
  | _ => False
/-- a call by a promise -/
def ask (f : SpD) (xs : List D) (S : Sto) (k : DK) (_ : Tag k) : Prop := f xs S k fun _ _ _ => False
/-- a new place -/
def fresh (S : Sto) (k : Addr → Prop) (_ : Tag k) : Prop := ∀ p, S p = none → k p
def few (n : Nat) (A : Prop) (_ : Tag A) : Prop := n ≤ 100000 ∧ A
/-- what is asked, then the rest -/
def need (C A : Prop) (_ : Tag A) : Prop := C ∧ A
def ixq (x : D) (i : Int) (S : Sto) (k : DK) (_ : Tag k) : Prop := oIx x (.int i) S k
theorem x_few {n : Nat} {A : Prop} (h : n ≤ 100000) : few n A ⟨⟩ = A := propext ⟨fun z => z.2, fun z => ⟨h, z⟩⟩
theorem x_need {C A : Prop} (h : C) : need C A ⟨⟩ = A := propext ⟨fun z => z.2, fun z => ⟨h, z⟩⟩
section
variable {δ : Dst} {S : Sto} {k : DK} {kt : Bool → Sto → Prop} {ka : List D → Sto → Prop} {E : DEnds} {da db de : DE} {dA : DA} {t u : DT} {d e : DS} {i j : Nat} {x y : D}
theorem x_seq : dSeq d e E δ S = d { E with nx := e E } δ S := propext Iff.rfl
theorem x_nx : dNext E δ S = E.nx δ S := propext Iff.rfl
theorem x_pass : dPass E δ S = E.nx δ S := propext Iff.rfl
theorem x_brk : dBreak E δ S = E.bk δ S := propext Iff.rfl
theorem x_cnt : dCont E δ S = E.ct δ S := propext Iff.rfl
theorem x_drop : dDrop de E δ S = de δ S fun _ S1 => E.nx δ S1 := propext Iff.rfl
theorem x_ret : dRet de E δ S = de δ S E.rt := propext Iff.rfl
theorem x_retN : dRetN E δ S = E.rt .non S := propext Iff.rfl
theorem x_ifS : dIfS t d e E δ S = t δ S fun b S1 => branch b (d E δ S1) (e E δ S1) ⟨⟩ := propext Iff.rfl
theorem x_set : dSet de i E δ S = de δ S fun x S1 => E.nx (δ.set i (some x)) S1 := propext Iff.rfl
theorem x_asg {g : DG} : dAsg de g E δ S = de δ S fun x S1 => g x δ S1 E.nx := propext Iff.rfl
theorem x_gN {kg : Dst → Sto → Prop} : gN i x δ S kg = kg (δ.set i (some x)) S := propext Iff.rfl
theorem x_gT {n : Nat} {gs : DGs} {ds : List D} {kg : Dst → Sto → Prop} : gT n gs (.tup ds) δ S kg = need (ds.length = n) (gs ds δ S kg) ⟨⟩ := propext Iff.rfl
theorem x_gsC {g : DG} {gs : DGs} {ds : List D} {kg : Dst → Sto → Prop} : gsCons g gs (x :: ds) δ S kg = g x δ S fun δ' S' => gs ds δ' S' kg := propext Iff.rfl
theorem x_gsN {kg : Dst → Sto → Prop} : gsNil [] δ S kg = kg δ S := propext Iff.rfl
theorem x_var : dVar i δ S k = rdv δ[i]? S k ⟨⟩ := propext (by unfold dVar rdv; exact Iff.rfl)
theorem x_rdv : rdv (some (some x)) S k ⟨⟩ = k x S := propext Iff.rfl
theorem x_c : dC x δ S k = k x S := propext Iff.rfl
theorem x_op {rd : DR2} : dOp rd da db δ S k = da δ S fun x S1 => db δ S1 fun y S2 => rd x y S2 k := propext Iff.rfl
theorem x_test : dTest de δ S kt = de δ S fun x S1 => tst x S1 kt ⟨⟩ := propext (by unfold dTest tst; exact Iff.rfl)
theorem x_tst {b : Bool} : tst (.bl b) S kt ⟨⟩ = kt b S := propext Iff.rfl
theorem x_and : dAnd t u δ S kt = t δ S fun c S1 => branch c (u δ S1 kt) (kt false S1) ⟨⟩ := propext Iff.rfl
theorem x_or : dOr t u δ S kt = t δ S fun c S1 => branch c (kt true S1) (u δ S1 kt) ⟨⟩ := propext Iff.rfl
theorem x_not : dNot t δ S kt = t δ S fun c S1 => kt (!c) S1 := propext Iff.rfl
theorem x_andV : dAndV da db δ S k = da δ S fun x S1 => tstV x (fun c => branch c (db δ S1 k) (k (.bl false) S1) ⟨⟩) ⟨⟩ := propext (by unfold dAndV tstV; exact Iff.rfl)
theorem x_orV : dOrV da db δ S k = da δ S fun x S1 => tstV x (fun c => branch c (k (.bl true) S1) (db δ S1 k) ⟨⟩) ⟨⟩ := propext (by unfold dOrV tstV; exact Iff.rfl)
theorem x_notV : dNotV da δ S k = da δ S fun x S1 => tstV x (fun c => k (.bl (!c)) S1) ⟨⟩ := propext (by unfold dNotV tstV; exact Iff.rfl)
theorem x_tstV {b : Bool} {kb : Bool → Prop} : tstV (.bl b) kb ⟨⟩ = kb b := propext Iff.rfl
theorem x_ifE : dIf t da db δ S k = t δ S fun c S1 => branch c (da δ S1 k) (db δ S1 k) ⟨⟩ := propext Iff.rfl
theorem x_true {A B : Prop} : branch true A B ⟨⟩ = A := by unfold branch; simp
theorem x_false {A B : Prop} : branch false A B ⟨⟩ = B := by unfold branch; simp
theorem x_nil : dNil δ S ka = ka [] S := propext Iff.rfl
theorem x_cons : dCons da dA δ S ka = da δ S fun x S1 => dA δ S1 fun xs S2 => ka (x :: xs) S2 := propext Iff.rfl
theorem x_tup : dTup dA δ S k = dA δ S fun xs S1 => few xs.length (k (.tup xs) S1) ⟨⟩ := propext Iff.rfl
theorem x_lst : dLst dA δ S k = dA δ S fun xs S1 => few xs.length (k (.list xs) S1) ⟨⟩ := propext Iff.rfl
theorem x_new : dNew dA δ S k = dA δ S fun xs S1 => few xs.length (fresh S1 (fun p => k (.ref p) (put S1 p (.lst xs))) ⟨⟩) ⟨⟩ := propext Iff.rfl
theorem x_newD : dNewD δ S k = fresh S (fun p => k (.ref p) (put S p (.dct []))) ⟨⟩ := propext Iff.rfl
theorem x_call {f : SpD} : dCall f dA δ S k = dA δ S fun xs S1 => ask f xs S1 k ⟨⟩ := propext Iff.rfl
theorem x_cb {rd : List D → Sto → DK → Prop} : dCB rd dA δ S k = dA δ S fun xs S1 => rd xs S1 k := propext Iff.rfl
theorem x_oI {f : Int → Int → D} {a b : Int} : oI f (.int a) (.int b) S k = k (f a b) S := propext Iff.rfl
theorem x_oIc {C : Int → Int → Prop} {f : Int → Int → D} {a b : Int} : oIc C f (.int a) (.int b) S k = need (C a b) (k (f a b) S) ⟨⟩ := propext Iff.rfl
theorem x_oS {f : Str → Str → D} {a b : Str} : oS f (.str a) (.str b) S k = k (f a b) S := propext Iff.rfl
theorem x_addS {a b : Str} : oAddS (.str a) (.str b) S k = few (a.length + b.length) (k (.str (a ++ b)) S) ⟨⟩ := propext Iff.rfl
theorem x_isN : oIsN false x .non S k = k (.bl (isNon x)) S := propext Iff.rfl
theorem x_notN : oIsN true x .non S k = k (.bl (!isNon x)) S := propext Iff.rfl
theorem x_eqI {a b : Int} : oEq false (.int a) (.int b) S k = k (.bl (decide (a = b))) S := propext Iff.rfl
theorem x_eqS {a b : Str} : oEq false (.str a) (.str b) S k = k (.bl (decide (a = b))) S := propext Iff.rfl
theorem x_eqIS {a : Int} {b : Str} : oEq false (.int a) (.str b) S k = k (.bl false) S := propext Iff.rfl
theorem x_eqSI {a : Str} {b : Int} : oEq false (.str a) (.int b) S k = k (.bl false) S := propext Iff.rfl
theorem x_eqNS {b : Str} : oEq false .non (.str b) S k = k (.bl false) S := propext Iff.rfl
theorem x_neI {a b : Int} : oEq true (.int a) (.int b) S k = k (.bl (!decide (a = b))) S := propext Iff.rfl
theorem x_neS {a b : Str} : oEq true (.str a) (.str b) S k = k (.bl (!decide (a = b))) S := propext Iff.rfl
theorem x_neB {a b : Bool} : oEq true (.bl a) (.bl b) S k = k (.bl (!decide (a = b))) S := propext Iff.rfl
theorem x_eqB {a b : Bool} : oEq false (.bl a) (.bl b) S k = k (.bl (decide (a = b))) S := propext Iff.rfl
theorem x_lenS {z : Str} : oLen [.str z] S k = few z.length (k (.int z.length) S) ⟨⟩ := propext Iff.rfl
theorem ix_of {ds : List D} {i : Int} {d : D} {k : DK} {x : D} (hx : x = .list ds ∨ x = .tup ds ∨ x = .scr ds) (h : atI ds i = some d) : oIx x (.int i) S k = k d S := by
  rcases hx with rfl | rfl | rfl
  all_goals
    refine propext ⟨fun ⟨es, e, hs, he, q⟩ => ?_, fun q => ⟨ds, d, rfl, h, q⟩⟩
    cases (show ds = es from hs)
    rw [h] at he
    cases he
    exact q
theorem x_ix {a : Int} : oIx x (.int a) S k = ixq x a S k ⟨⟩ := propext Iff.rfl
theorem x_ixq {ds : List D} {i : Int} {d : D} (hx : x = .list ds ∨ x = .tup ds ∨ x = .scr ds) (h : atI ds i = some d) : ixq x i S k ⟨⟩ = k d S := ix_of hx h
theorem x_ixL0 {a : D} {r : List D} : ixq (.list (a :: r)) 0 S k ⟨⟩ = k a S := ix_of (.inl rfl) (atI_nat (j := 0) rfl)
theorem x_ixT0 {a : D} {r : List D} : ixq (.tup (a :: r)) 0 S k ⟨⟩ = k a S := ix_of (.inr (.inl rfl)) (atI_nat (j := 0) rfl)
theorem x_ixT1 {a b : D} {r : List D} : ixq (.tup (a :: b :: r)) 1 S k ⟨⟩ = k b S := ix_of (.inr (.inl rfl)) (atI_nat (j := 1) rfl)
theorem x_ixT2 {a b c : D} {r : List D} : ixq (.tup (a :: b :: c :: r)) 2 S k ⟨⟩ = k c S := ix_of (.inr (.inl rfl)) (atI_nat (j := 2) rfl)
theorem x_ixT3 {a b c d : D} {r : List D} : ixq (.tup (a :: b :: c :: d :: r)) 3 S k ⟨⟩ = k d S := ix_of (.inr (.inl rfl)) (atI_nat (j := 3) rfl)
theorem x_ixT4 {a b c d e : D} {r : List D} : ixq (.tup (a :: b :: c :: d :: e :: r)) 4 S k ⟨⟩ = k e S := ix_of (.inr (.inl rfl)) (atI_nat (j := 4) rfl)
theorem seq_of {S : Sto} {x : D} {ds : List D} {Q : List D → Prop} (h : SeqD S x ds) : (∃ es, SeqD S x es ∧ Q es) = Q ds := by
  refine propext ⟨fun ⟨es, hs, q⟩ => ?_, fun q => ⟨ds, h, q⟩⟩
  have : es = ds := by
    unfold SeqD at h hs
    cases x with
    | list l => exact hs.symm.trans h
    | scr l => exact hs.symm.trans h
    | tup l => exact hs.symm.trans h
    | ref a =>
      have h' : S a = some (.lst ds) := h
      have hs' : S a = some (.lst es) := hs
      rw [h'] at hs'
      cases hs'
      rfl
    | _ => exact h.elim
  rw [← this]
  exact q
theorem x_lenL {ds : List D} : oLen [.list ds] S k = k (.int ds.length) S := seq_of (Q := fun es => k (.int es.length) S) rfl
theorem x_lenT {ds : List D} : oLen [.tup ds] S k = k (.int ds.length) S := seq_of (Q := fun es => k (.int es.length) S) rfl
theorem x_lenC {ds : List D} : oLen [.scr ds] S k = k (.int ds.length) S := seq_of (Q := fun es => k (.int es.length) S) rfl
theorem x_lenR {a : Addr} {ds : List D} (h : S a = some (.lst ds)) : oLen [.ref a] S k = k (.int ds.length) S := seq_of (Q := fun es => k (.int es.length) S) h
theorem x_listL {ds : List D} : oList [.list ds] S k = k (.list ds) S := seq_of (Q := fun es => k (.list es) S) rfl
theorem x_listT {ds : List D} : oList [.tup ds] S k = k (.list ds) S := seq_of (Q := fun es => k (.list es) S) rfl
theorem x_tupL {ds : List D} : oTuple [.list ds] S k = k (.tup ds) S := seq_of (Q := fun es => k (.tup es) S) rfl
theorem x_tupT {ds : List D} : oTuple [.tup ds] S k = k (.tup ds) S := seq_of (Q := fun es => k (.tup es) S) rfl
theorem x_strI {a : Int} : oStr [.int a] S k = need (a.natAbs.log2 < 1920) (k (.str (toString a)) S) ⟨⟩ := propext Iff.rfl
theorem x_strS {a : Str} : oStr [.str a] S k = k (.str a) S := propext Iff.rfl
theorem x_int1 {a : Int} : oInt1 [.int a] S k = k (.int a) S := propext Iff.rfl
theorem x_intB {b : Bool} : oInt1 [.bl b] S k = k (.int (if b then 1 else 0)) S := propext Iff.rfl
theorem x_I1 {f : Int → D} {a : Int} : oI1 f [.int a] S k = k (f a) S := propext Iff.rfl
theorem x_I2 {f : Int → Int → D} {a b : Int} : oI2 f [.int a, .int b] S k = k (f a b) S := propext Iff.rfl
theorem x_cat {a b : List D} : oCat (.list a) (.list b) S k = few (a.length + b.length) (k (.list (a ++ b)) S) ⟨⟩ := propext Iff.rfl
theorem x_catT {a b : List D} : oCatT (.tup a) (.tup b) S k = need (a ≠ []) (few (a.length + b.length) (k (.tup (a ++ b)) S) ⟨⟩) ⟨⟩ := propext Iff.rfl
theorem x_split {a b : Str} : dSplit (dC (.str a)) (dC (.str b)) δ S k = need ((b.length == 0) = false) (few (a.length + 2) (k (.list ((Txt.split a b).map D.str)) S) ⟨⟩) ⟨⟩ := propext Iff.rfl
theorem x_frz : dFrz i δ S k = rdv δ[i]? S (fun x _ => ∃ a ds, x = .ref a ∧ S a = some (.lst ds) ∧ k (.list ds) (del S a)) ⟨⟩ := by
  unfold dFrz rdv
  refine propext ⟨fun h => ?_, fun h => ?_⟩
  · split at h
    · rename_i b e
      obtain ⟨ds, h1, h2⟩ := h
      rw [e]
      exact ⟨b, ds, rfl, h1, h2⟩
    · exact h.elim
  · split at h
    · rename_i d e
      obtain ⟨b, ds, rfl, h1, h2⟩ := h
      rw [e]
      exact ⟨ds, h1, h2⟩
    · exact h.elim
end
theorem br {b : Bool} {A B : Prop} (h1 : b = true → A) (h2 : b = false → B) : branch b A B ⟨⟩ := by
  unfold branch
  cases b with
  | true => exact h1 rfl
  | false => exact h2 rfl
section
variable {δ : Dst} {S : Sto} {t u : DT} {a b : Bool} {de : DE}
end
end DL
namespace DL
open PySem L2 Evl EX
section
variable {S : Sto} {k : DK} {tp : Addr} {x : D}
/-- xs[j], j a place that is there -/
theorem ixAt {ds : List D} {j : Nat} {d : D} (hx : x = .list ds ∨ x = .tup ds ∨ x = .scr ds) (h : ds[j]? = some d) (q : k d S) : ixq x (j : Int) S k ⟨⟩ := by
  rw [x_ixq hx (atI_nat h)]
  exact q
theorem fewOf {n : Nat} {A : Prop} (h : n ≤ 100000) (q : A) : few n A ⟨⟩ := ⟨h, q⟩
theorem needOf {C A : Prop} (h : C) (q : A) : need C A ⟨⟩ := ⟨h, q⟩
theorem freshOf {k : Addr → Prop} (h : ∀ p, S p = none → k p) : fresh S k ⟨⟩ := h
end
end DL

set_option Elab.async false
set_option linter.all false
set_option maxRecDepth 100000
namespace DL
open PySem L2 Evl EX
theorem nrfl {α : Sort _} {a b : α} (h : a = b) : a = b := h
theorem x_flS {s : Str} : flatD (.str s) = true := nrfl rfl
theorem x_flI {s : Int} : flatD (.int s) = true := nrfl rfl
theorem x_flN : flatD .non = true := nrfl rfl
theorem x_flB {s : Bool} : flatD (.bl s) = true := nrfl rfl
theorem x_cs_bool : ("bool" ∈ Cs) = True := eq_true (by decide)
theorem x_isB_NoneType_bool : isB "NoneType" "bool" = false := nrfl (by decide)
theorem x_isB_bool_bool : isB "bool" "bool" = true := nrfl (by decide)
theorem x_isB_int_bool : isB "int" "bool" = false := nrfl (by decide)
theorem x_isB_str_bool : isB "str" "bool" = false := nrfl (by decide)
theorem x_isB_list_bool : isB "list" "bool" = false := nrfl (by decide)
theorem x_isB_tuple_bool : isB "tuple" "bool" = false := nrfl (by decide)
theorem x_isB_dict_bool : isB "dict" "bool" = false := nrfl (by decide)
theorem x_cs_int : ("int" ∈ Cs) = True := eq_true (by decide)
theorem x_isB_NoneType_int : isB "NoneType" "int" = false := nrfl (by decide)
theorem x_isB_bool_int : isB "bool" "int" = true := nrfl (by decide)
theorem x_isB_int_int : isB "int" "int" = true := nrfl (by decide)
theorem x_isB_str_int : isB "str" "int" = false := nrfl (by decide)
theorem x_isB_list_int : isB "list" "int" = false := nrfl (by decide)
theorem x_isB_tuple_int : isB "tuple" "int" = false := nrfl (by decide)
theorem x_isB_dict_int : isB "dict" "int" = false := nrfl (by decide)
theorem x_cs_str : ("str" ∈ Cs) = True := eq_true (by decide)
theorem x_isB_NoneType_str : isB "NoneType" "str" = false := nrfl (by decide)
theorem x_isB_bool_str : isB "bool" "str" = false := nrfl (by decide)
theorem x_isB_int_str : isB "int" "str" = false := nrfl (by decide)
theorem x_isB_str_str : isB "str" "str" = true := nrfl (by decide)
theorem x_isB_list_str : isB "list" "str" = false := nrfl (by decide)
theorem x_isB_tuple_str : isB "tuple" "str" = false := nrfl (by decide)
theorem x_isB_dict_str : isB "dict" "str" = false := nrfl (by decide)
theorem x_cs_list : ("list" ∈ Cs) = True := eq_true (by decide)
theorem x_isB_NoneType_list : isB "NoneType" "list" = false := nrfl (by decide)
theorem x_isB_bool_list : isB "bool" "list" = false := nrfl (by decide)
theorem x_isB_int_list : isB "int" "list" = false := nrfl (by decide)
theorem x_isB_str_list : isB "str" "list" = false := nrfl (by decide)
theorem x_isB_list_list : isB "list" "list" = true := nrfl (by decide)
theorem x_isB_tuple_list : isB "tuple" "list" = false := nrfl (by decide)
theorem x_isB_dict_list : isB "dict" "list" = false := nrfl (by decide)
theorem x_cs_tuple : ("tuple" ∈ Cs) = True := eq_true (by decide)
theorem x_isB_NoneType_tuple : isB "NoneType" "tuple" = false := nrfl (by decide)
theorem x_isB_bool_tuple : isB "bool" "tuple" = false := nrfl (by decide)
theorem x_isB_int_tuple : isB "int" "tuple" = false := nrfl (by decide)
theorem x_isB_str_tuple : isB "str" "tuple" = false := nrfl (by decide)
theorem x_isB_list_tuple : isB "list" "tuple" = false := nrfl (by decide)
theorem x_isB_tuple_tuple : isB "tuple" "tuple" = true := nrfl (by decide)
theorem x_isB_dict_tuple : isB "dict" "tuple" = false := nrfl (by decide)
theorem x_cs_dict : ("dict" ∈ Cs) = True := eq_true (by decide)
theorem x_isB_NoneType_dict : isB "NoneType" "dict" = false := nrfl (by decide)
theorem x_isB_bool_dict : isB "bool" "dict" = false := nrfl (by decide)
theorem x_isB_int_dict : isB "int" "dict" = false := nrfl (by decide)
theorem x_isB_str_dict : isB "str" "dict" = false := nrfl (by decide)
theorem x_isB_list_dict : isB "list" "dict" = false := nrfl (by decide)
theorem x_isB_tuple_dict : isB "tuple" "dict" = false := nrfl (by decide)
theorem x_isB_dict_dict : isB "dict" "dict" = true := nrfl (by decide)
/-! what waits for an answer -/
def st2 (rd : DR2) (x y : D) (S : Sto) (k : DK) (_ : Tag k) : Prop := rd x y S k
def stC (rd : List D → Sto → DK → Prop) (xs : List D) (S : Sto) (k : DK) (_ : Tag k) : Prop := rd xs S k
def stM (rd : DM) (x : D) (xs : List D) (S : Sto) (k : DK) (_ : Tag k) : Prop := rd x xs S k
def stL (rd : D → Option Int → Option Int → Sto → DK → Prop) (x : D) (l u : Option Int) (S : Sto) (k : DK) (_ : Tag k) : Prop := rd x l u S k
def itL (x : D) (S : Sto) (k : List D → Sto → Prop) (_ : Tag k) : Prop := match x with
  | .list ds => k ds S
  | .scr ds => k ds S
  | _ => False
def itT (x : D) (S : Sto) (k : List D → Sto → Prop) (_ : Tag k) : Prop := match x with
  | .tup ds => k ds S
  | _ => False
def itS (x : D) (S : Sto) (k : List D → Sto → Prop) (_ : Tag k) : Prop := match x with
  | .str z => k (z.cps.toList.map fun c => .str ⟨#[c]⟩) S
  | _ => False
def forC (ds : List D) (g : DG) (b : DS) (E : DEnds) (δ : Dst) (S : Sto) (_ : Tag (E, g, b)) : Prop := ∃ I : Nat → Dst → Sto → Prop, I 0 δ S ∧
  (∀ n d δ' S', ds[n]? = some d → I n δ' S' → g d δ' S' fun δ2 S2 => b { E with nx := I (n + 1), ct := I (n + 1), bk := E.nx } δ2 S2) ∧ ∀ δ' S', I ds.length δ' S' → E.nx δ' S'
def lcC (ds : List D) (g : DGc) (t : DT) (de : DE) (vs : List Nat) (δ : Dst) (S : Sto) (k : DK) (_ : Tag (k, g, t, de)) : Prop := ds.length < 100000 ∧ ∀ p, S p = none → ∃ I : Nat → List D → Sto → Prop, I 0 [] S ∧
  (∀ n d acc S', ds[n]? = some d → S' p = none → I n acc S' → g d (wipeD δ vs) fun δ2 => t δ2 (put S' p (.lst acc)) fun b S2 => if b = true then de δ2 S2 (fun y S3 => ∃ S4, S4 p = none ∧ S3 = put S4 p (.lst acc) ∧ I (n + 1) (acc ++ [y]) S4) else ∃ S4, S4 p = none ∧ S2 = put S4 p (.lst acc) ∧ I (n + 1) acc S4) ∧
  ∀ acc S', S' p = none → I ds.length acc S' → k (.list acc) S'
def cutC (d e : DS) (E : DEnds) (δ : Dst) (S : Sto) (_ : Tag (E, d, e)) : Prop := dCut d e E δ S
theorem x_cut {d e : DS} {E : DEnds} {δ : Dst} {S : Sto} : dCut d e E δ S = cutC d e E δ S ⟨⟩ := propext Iff.rfl
def whlC (t : DT) (b : DS) (E : DEnds) (δ : Dst) (S : Sto) (_ : Tag (E, t, b)) : Prop := dWhile t b E δ S
section
variable {δ : Dst} {S : Sto} {k : DK} {kt : Bool → Sto → Prop} {ka : List D → Sto → Prop} {E : DEnds} {da db de : DE} {dA : DA} {t u : DT} {d e b : DS} {i j : Nat} {x y : D} {g : DG} {gc : DGc} {di : DI} {vs : List Nat} {ds : List D} {a : Addr}
theorem x_for : dFor di g b E δ S = di δ S fun ds S1 => forC ds g b E δ S1 ⟨⟩ := propext Iff.rfl
theorem x_lc : dLc di gc t de vs δ S k = di δ S fun ds S1 => lcC ds gc t de vs δ S1 k ⟨⟩ := propext Iff.rfl
theorem x_whl : dWhile t b E δ S = whlC t b E δ S ⟨⟩ := propext Iff.rfl
theorem x_diL : diL de δ S ka = de δ S fun x S1 => itL x S1 ka ⟨⟩ := propext (by unfold diL itL; exact Iff.rfl)
theorem x_diT : diT de δ S ka = de δ S fun x S1 => itT x S1 ka ⟨⟩ := propext (by unfold diT itT; exact Iff.rfl)
theorem x_diS : diStr de δ S ka = de δ S fun x S1 => itS x S1 ka ⟨⟩ := propext (by unfold diStr itS; exact Iff.rfl)
theorem x_itL : itL (.list ds) S ka ⟨⟩ = ka ds S := propext Iff.rfl
theorem x_itC : itL (.scr ds) S ka ⟨⟩ = ka ds S := propext Iff.rfl
theorem x_itT : itT (.tup ds) S ka ⟨⟩ = ka ds S := propext Iff.rfl
theorem x_itS {z : Str} : itS (.str z) S ka ⟨⟩ = ka (z.cps.toList.map fun c => .str ⟨#[c]⟩) S := propext Iff.rfl
def rng1 (xs : List D) (S : Sto) (k : List D → Sto → Prop) (_ : Tag k) : Prop := match xs with
  | [.int j] => -(2 ^ 62) ≤ j ∧ j < 2 ^ 62 ∧ k (rngD 0 j.toNat) S
  | _ => False
def rng2 (xs : List D) (S : Sto) (k : List D → Sto → Prop) (_ : Tag k) : Prop := match xs with
  | [.int i, .int j] => (-(2 ^ 62) ≤ i ∧ i < 2 ^ 62 ∧ -(2 ^ 62) ≤ j ∧ j < 2 ^ 62) ∧ k (rngD i (j - i).toNat) S
  | _ => False
def enm (xs : List D) (S : Sto) (k : List D → Sto → Prop) (_ : Tag k) : Prop := match xs with
  | [.list ds] => k (enumD ds) S
  | [.scr ds] => k (enumD ds) S
  | _ => False
theorem x_diR1 : diR1 dA δ S ka = dA δ S fun xs S1 => rng1 xs S1 ka ⟨⟩ := propext (by unfold diR1 rng1; exact Iff.rfl)
theorem x_diR2 : diR2 dA δ S ka = dA δ S fun xs S1 => rng2 xs S1 ka ⟨⟩ := propext (by unfold diR2 rng2; exact Iff.rfl)
theorem x_diE : diEnum dA δ S ka = dA δ S fun xs S1 => enm xs S1 ka ⟨⟩ := propext (by unfold diEnum enm; exact Iff.rfl)
theorem x_enmL : enm [.list ds] S ka ⟨⟩ = ka (enumD ds) S := propext Iff.rfl
theorem x_enmC : enm [.scr ds] S ka ⟨⟩ = ka (enumD ds) S := propext Iff.rfl
theorem rngOf {n : Int} (h0 : 0 ≤ n) (h1 : n ≤ 100000) (q : ka (rngD 0 n.toNat) S) : rng1 [.int n] S ka ⟨⟩ := ⟨by omega, by omega, q⟩
/-- a loop by its invariant -/
theorem forOf (I : Nat → Dst → Sto → Prop) (h0 : I 0 δ S) (hs : ∀ n d δ' S', ds[n]? = some d → I n δ' S' → g d δ' S' fun δ2 S2 => b { E with nx := I (n + 1), ct := I (n + 1), bk := E.nx } δ2 S2) (hd : ∀ δ' S', I ds.length δ' S' → E.nx δ' S') : forC ds g b E δ S ⟨⟩ := ⟨I, h0, hs, hd⟩
theorem whlOf (W : Nat → Dst → Sto → Prop) (m : Nat) (h0 : W m δ S) (hs : ∀ m δ' S', W m δ' S' → t δ' S' fun c S1 => branch c (b { E with nx := fun δ2 S2 => ∃ m', m' < m ∧ W m' δ2 S2, ct := fun δ2 S2 => ∃ m', m' < m ∧ W m' δ2 S2, bk := E.nx } δ' S1) (E.nx δ' S1) ⟨⟩) : whlC t b E δ S ⟨⟩ := ⟨W, ⟨m, h0⟩, hs⟩
theorem lcOf (P : Nat → List D → Prop) (hl : ds.length < 100000) (h0 : P 0 [])
    (hs : ∀ p, S p = none → ∀ n d acc, ds[n]? = some d → P n acc → gc d (wipeD δ vs) fun δ2 => t δ2 (put S p (.lst acc)) fun b S2 => branch b (de δ2 S2 (fun y S3 => LcO S p acc (P (n + 1) (acc ++ [y])) S3)) (LcO S p acc (P (n + 1) acc) S2) ⟨⟩) (hd : ∀ acc, P ds.length acc → k (.list acc) S) :
    lcC ds gc t de vs δ S k ⟨⟩ := lc_go P hl h0 hs hd
theorem x_gcN {kg : Dst → Prop} : gcN i x δ kg = kg (δ.set i (some x)) := propext Iff.rfl
theorem x_gcT {js : List Nat} {kg : Dst → Prop} : gcT js (.tup ds) δ kg = need (ds.length = js.length) (kg (setD δ js ds)) ⟨⟩ := propext Iff.rfl
theorem x_yes : dYes δ S kt = kt true S := propext Iff.rfl
/-! methods -/
theorem x_ml {rd : DM} : dML rd da dA δ S k = da δ S fun x S1 => need (IsL S1 x) (dA δ S1 fun xs S2 => stM rd x xs S2 k ⟨⟩) ⟨⟩ := propext Iff.rfl
def strq (x : D) (k : Str → Prop) (_ : Tag k) : Prop := match x with
  | .str z => k z
  | _ => False
theorem x_ms {rd : DM} : dMS rd da dA δ S k = da δ S fun x S1 => strq x (fun z => dA δ S1 fun xs S2 => stM rd (.str z) xs S2 k ⟨⟩) ⟨⟩ := propext (by unfold dMS strq stM; exact Iff.rfl)
theorem x_strq {z : Str} {kz : Str → Prop} : strq (.str z) kz ⟨⟩ = kz z := propext Iff.rfl
theorem appOf (h : S a = some (.lst ds)) (hl : ds.length < 100000) (q : k .non (put S a (.lst (ds ++ [y])))) : stM oApp (.ref a) [y] S k ⟨⟩ := ⟨ds, h, hl, q⟩
theorem extOf {es : List D} (h : S a = some (.lst ds)) (hl : ds.length + es.length ≤ 100000) (q : k .non (put S a (.lst (ds ++ es)))) : stM oExt (.ref a) [.list es] S k ⟨⟩ := ⟨ds, h, hl, q⟩
theorem popOf (h : S a = some (.lst (ds ++ [y]))) (q : k y (put S a (.lst ds))) : stM oPop (.ref a) [] S k ⟨⟩ := ⟨ds, y, h, q⟩
theorem isLOf (h : S a = some (.lst ds)) : IsL S (.ref a) := ⟨ds, h⟩
theorem x_ss {f : Str → Str → D} {a b : Str} : stM (oSS f) (.str a) [.str b] S k ⟨⟩ = k (f a b) S := propext Iff.rfl
theorem x_ssc {C : Str → Str → Prop} {f : Str → Str → D} {a b : Str} : stM (oSSc C f) (.str a) [.str b] S k ⟨⟩ = need (C a b) (k (f a b) S) ⟨⟩ := propext Iff.rfl
theorem x_ssi {f : Str → Str → Int → D} {a b : Str} {i : Int} : stM (oSSI f) (.str a) [.str b, .int i] S k ⟨⟩ = k (f a b i) S := propext Iff.rfl
def joinq (a : Str) (y : D) (S : Sto) (k : DK) (_ : Tag k) : Prop := ∃ ys : List Str, SeqD S y (ys.map D.str) ∧ (ys.map (·.length)).sum + ys.length * a.length ≤ 16777216 ∧ k (.str (Txt.join a ys)) S
theorem x_join : dJoin da db δ S k = da δ S fun x S1 => strq x (fun z => db δ S1 fun y S2 => joinq z y S2 k ⟨⟩) ⟨⟩ := propext (by unfold dJoin strq joinq; exact Iff.rfl)
theorem x_st2I {f : Int → Int → D} {a b : Int} : st2 (oI f) (.int a) (.int b) S k ⟨⟩ = k (f a b) S := propext Iff.rfl
/-! slices -/
theorem x_sl {rd : D → Option Int → Option Int → Sto → DK → Prop} {dl dh : DO} : dSl rd da dl dh δ S k = da δ S fun x S1 => dl δ S1 fun l S2 => dh δ S2 fun u S3 => stL rd x l u S3 k ⟨⟩ := propext Iff.rfl
theorem x_noP {ko : Option Int → Sto → Prop} : dNoP δ S ko = ko none S := propext Iff.rfl
def intq (x : D) (k : Int → Prop) (_ : Tag k) : Prop := match x with
  | .int z => k z
  | _ => False
theorem x_part {ko : Option Int → Sto → Prop} : dPart da δ S ko = da δ S fun x S1 => intq x (fun i => ko (some i) S1) ⟨⟩ := propext (by unfold dPart intq; exact Iff.rfl)
theorem x_intq {i : Int} {ki : Int → Prop} : intq (.int i) ki ⟨⟩ = ki i := propext Iff.rfl
theorem x_aug {f : Int → Int → Int} : dAug i f de E δ S = rdv δ[i]? S (fun x _ => intq x (fun a => de δ S fun y S1 => intq y (fun b => E.nx (δ.set i (some (.int (f a b)))) S1) ⟨⟩) ⟨⟩) ⟨⟩ := propext (by
  unfold dAug rdv intq
  cases h : δ[i]? with
  | none => exact Iff.rfl
  | some o =>
    cases o with
    | none => exact Iff.rfl
    | some d => cases d <;> exact Iff.rfl)
theorem x_slL {l u : Option Int} : stL oSlL (.list ds) l u S k ⟨⟩ = k (.list (cutD ds l u)) S := propext Iff.rfl
theorem x_slC {l u : Option Int} : stL oSlL (.scr ds) l u S k ⟨⟩ = k (.list (cutD ds l u)) S := propext Iff.rfl
theorem x_slS {l u : Option Int} {z : Str} : stL oSlS (.str z) l u S k ⟨⟩ = few z.length (k (.str (cutS z l u)) S) ⟨⟩ := propext Iff.rfl
/-! in, == -/
theorem x_in {neg : Bool} : oIn neg x y S k = st2 (oIn neg) x y S k ⟨⟩ := propext Iff.rfl
theorem x_inT (h1 : flatD x = true) (h2 : ds.all flatD = true) : st2 (oIn false) x (.tup ds) S k ⟨⟩ = k (.bl (inD x ds)) S :=
  (seq_of (Q := fun es => flatD x = true ∧ es.all flatD = true ∧ k (.bl (inD x es)) S) (show SeqD S (.tup ds) ds from rfl)).trans (propext ⟨fun z => z.2.2, fun z => ⟨h1, h2, z⟩⟩)
theorem x_inL (h1 : flatD x = true) (h2 : ds.all flatD = true) : st2 (oIn false) x (.list ds) S k ⟨⟩ = k (.bl (inD x ds)) S :=
  (seq_of (Q := fun es => flatD x = true ∧ es.all flatD = true ∧ k (.bl (inD x es)) S) (show SeqD S (.list ds) ds from rfl)).trans (propext ⟨fun z => z.2.2, fun z => ⟨h1, h2, z⟩⟩)
theorem x_ninT (h1 : flatD x = true) (h2 : ds.all flatD = true) : st2 (oIn true) x (.tup ds) S k ⟨⟩ = k (.bl (!inD x ds)) S :=
  (seq_of (Q := fun es => flatD x = true ∧ es.all flatD = true ∧ k (.bl (!inD x es)) S) (show SeqD S (.tup ds) ds from rfl)).trans (propext ⟨fun z => z.2.2, fun z => ⟨h1, h2, z⟩⟩)
theorem x_ninL (h1 : flatD x = true) (h2 : ds.all flatD = true) : st2 (oIn true) x (.list ds) S k ⟨⟩ = k (.bl (!inD x ds)) S :=
  (seq_of (Q := fun es => flatD x = true ∧ es.all flatD = true ∧ k (.bl (!inD x es)) S) (show SeqD S (.list ds) ds from rfl)).trans (propext ⟨fun z => z.2.2, fun z => ⟨h1, h2, z⟩⟩)
theorem x_inN : inD x [] = false := by simp [inD, inV]
theorem x_inSS {s z : Str} : inD (.str s) (.str z :: ds) = (decide (s = z) || inD (.str s) ds) := by
  unfold inD
  rw [List.map_cons]
  show (([V.str z] ++ _).any _) = _
  rw [List.any_append]
  congr 1
  show ((z == s) || false) = _
  rw [Bool.or_false, Bool.eq_iff_iff]
  simp only [beq_iff_eq, decide_eq_true_eq]
  exact eq_comm
theorem x_inSI {s : Str} {z : Int} : inD (.str s) (.int z :: ds) = inD (.str s) ds := by unfold inD; rfl
theorem x_inIS {s : Int} {z : Str} : inD (.int s) (.str z :: ds) = inD (.int s) ds := by unfold inD; rfl
theorem x_inII {s z : Int} : inD (.int s) (.int z :: ds) = (decide (s = z) || inD (.int s) ds) := by
  unfold inD
  rw [List.map_cons]
  show (([V.int z] ++ _).any _) = _
  rw [List.any_append]
  congr 1
  show ((z == s) || false) = _
  rw [Bool.or_false, Bool.eq_iff_iff]
  simp only [beq_iff_eq, decide_eq_true_eq]
  exact eq_comm
theorem x_sg {neg : Bool} : oSg neg x y S k = st2 (oSg neg) x y S k ⟨⟩ := propext Iff.rfl
theorem x_sgS {c : Nat} {z : Str} : st2 (oSg false) (.str ⟨#[c]⟩) (.str z) S k ⟨⟩ = k (.bl (decide (c ∈ z.cps.toList))) S := propext ⟨fun ⟨d, e, q⟩ => by
  have : c = d := by injection e with e; injection e with e; simpa using congrArg (fun a : Array Nat => a.toList) e
  subst this
  exact q, fun q => ⟨c, rfl, q⟩⟩
theorem x_nsgS {c : Nat} {z : Str} : st2 (oSg true) (.str ⟨#[c]⟩) (.str z) S k ⟨⟩ = k (.bl (!decide (c ∈ z.cps.toList))) S := propext ⟨fun ⟨d, e, q⟩ => by
  have : c = d := by injection e with e; injection e with e; simpa using congrArg (fun a : Array Nat => a.toList) e
  subst this
  exact q, fun q => ⟨c, rfl, q⟩⟩
theorem x_eqD {neg : Bool} : oEqD neg x y S k = st2 (oEqD neg) x y S k ⟨⟩ := propext Iff.rfl
theorem x_inDD {neg : Bool} : oInD neg x y S k = st2 (oInD neg) x y S k ⟨⟩ := propext Iff.rfl
theorem x_mulS {a : Str} {n : Int} : oMulS (.str a) (.int n) S k = need (a.length ≤ 16 ∧ -(2 ^ 63 : Int) ≤ n ∧ n ≤ 1048576) (k (.str (Txt.mul a n)) S) ⟨⟩ := propext ⟨fun ⟨a, b, c, d⟩ => ⟨⟨a, b, c⟩, d⟩, fun ⟨⟨a, b, c⟩, d⟩ => ⟨a, b, c, d⟩⟩
/-! isinstance, any, all, sorted, .. -/
theorem x_isi {xs : List D} : oIsi xs S k = stC oIsi xs S k ⟨⟩ := propext Iff.rfl
theorem isi_of {c t : String} (h : tyD S x = some t) (hc : c ∈ Cs) : stC oIsi [x, .ty c] S k ⟨⟩ = k (.bl (isB t c)) S := propext ⟨fun ⟨u, hu, _, q⟩ => by rw [h] at hu; cases hu; exact q, fun q => ⟨t, h, hc, q⟩⟩
theorem x_isiS {s : Str} {c : String} (hc : c ∈ Cs) : stC oIsi [.str s, .ty c] S k ⟨⟩ = k (.bl (isB "str" c)) S := isi_of rfl hc
theorem x_isiI {s : Int} {c : String} (hc : c ∈ Cs) : stC oIsi [.int s, .ty c] S k ⟨⟩ = k (.bl (isB "int" c)) S := isi_of rfl hc
theorem x_isiB {s : Bool} {c : String} (hc : c ∈ Cs) : stC oIsi [.bl s, .ty c] S k ⟨⟩ = k (.bl (isB "bool" c)) S := isi_of rfl hc
theorem x_isiN {c : String} (hc : c ∈ Cs) : stC oIsi [.non, .ty c] S k ⟨⟩ = k (.bl (isB "NoneType" c)) S := isi_of rfl hc
theorem x_isiL {c : String} (hc : c ∈ Cs) : stC oIsi [.list ds, .ty c] S k ⟨⟩ = k (.bl (isB "list" c)) S := isi_of rfl hc
theorem x_isiT {c : String} (hc : c ∈ Cs) : stC oIsi [.tup ds, .ty c] S k ⟨⟩ = k (.bl (isB "tuple" c)) S := isi_of rfl hc
def isTq (c1 c2 : String) (x : D) (S : Sto) (k : DK) (_ : Tag k) : Prop := ∃ t, tyD S x = some t ∧ c1 ∈ Cs ∧ c2 ∈ Cs ∧ k (.bl (isB t c1 || isB t c2)) S
theorem x_isTT {c1 c2 : String} : dIsiT c1 c2 de δ S k = de δ S fun x S1 => isTq c1 c2 x S1 k ⟨⟩ := propext Iff.rfl
theorem isT_of {c1 c2 t : String} (h : tyD S x = some t) (h1 : c1 ∈ Cs) (h2 : c2 ∈ Cs) : isTq c1 c2 x S k ⟨⟩ = k (.bl (isB t c1 || isB t c2)) S := propext ⟨fun ⟨u, hu, _, _, q⟩ => by rw [h] at hu; cases hu; exact q, fun q => ⟨t, h, h1, h2, q⟩⟩
theorem x_itI {c1 c2 : String} {s : Int} (h1 : c1 ∈ Cs) (h2 : c2 ∈ Cs) : isTq c1 c2 (.int s) S k ⟨⟩ = k (.bl (isB "int" c1 || isB "int" c2)) S := isT_of rfl h1 h2
theorem x_itStr {c1 c2 : String} {s : Str} (h1 : c1 ∈ Cs) (h2 : c2 ∈ Cs) : isTq c1 c2 (.str s) S k ⟨⟩ = k (.bl (isB "str" c1 || isB "str" c2)) S := isT_of rfl h1 h2
theorem x_itN {c1 c2 : String} (h1 : c1 ∈ Cs) (h2 : c2 ∈ Cs) : isTq c1 c2 .non S k ⟨⟩ = k (.bl (isB "NoneType" c1 || isB "NoneType" c2)) S := isT_of rfl h1 h2
theorem x_itB {c1 c2 : String} {s : Bool} (h1 : c1 ∈ Cs) (h2 : c2 ∈ Cs) : isTq c1 c2 (.bl s) S k ⟨⟩ = k (.bl (isB "bool" c1 || isB "bool" c2)) S := isT_of rfl h1 h2
theorem x_itLst {c1 c2 : String} (h1 : c1 ∈ Cs) (h2 : c2 ∈ Cs) : isTq c1 c2 (.list ds) S k ⟨⟩ = k (.bl (isB "list" c1 || isB "list" c2)) S := isT_of rfl h1 h2
theorem x_itTup {c1 c2 : String} (h1 : c1 ∈ Cs) (h2 : c2 ∈ Cs) : isTq c1 c2 (.tup ds) S k ⟨⟩ = k (.bl (isB "tuple" c1 || isB "tuple" c2)) S := isT_of rfl h1 h2
theorem ixSeq {j : Nat} {d : D} (h : SeqD S x ds) (hd : ds[j]? = some d) (q : k d S) : ixq x (j : Int) S k ⟨⟩ := by
  cases x with
  | list l => exact ixAt (.inl rfl) (by rw [show l = ds from h]; exact hd) q
  | tup l => exact ixAt (.inr (.inl rfl)) (by rw [show l = ds from h]; exact hd) q
  | scr l => exact ixAt (.inr (.inr rfl)) (by rw [show l = ds from h]; exact hd) q
  | ref a => exact ⟨ds, d, h, atI_nat hd, q⟩
  | _ => exact (show False from h).elim
theorem x_any {xs : List D} : oAny xs S k = stC oAny xs S k ⟨⟩ := propext Iff.rfl
theorem x_all {xs : List D} : oAll xs S k = stC oAll xs S k ⟨⟩ := propext Iff.rfl
theorem x_sum {xs : List D} : oSum xs S k = stC oSum xs S k ⟨⟩ := propext Iff.rfl
theorem x_srtI {xs : List D} : oSortI xs S k = stC oSortI xs S k ⟨⟩ := propext Iff.rfl
theorem x_srtS {xs : List D} : oSortS xs S k = stC oSortS xs S k ⟨⟩ := propext Iff.rfl
theorem x_intS {z : Str} : oIntS [.str z] S k = stC oIntS [.str z] S k ⟨⟩ := propext Iff.rfl
theorem x_lenRf : oLen [.ref a] S k = stC oLen [.ref a] S k ⟨⟩ := propext Iff.rfl
theorem lenRf (h : S a = some (.lst ds)) (q : k (.int ds.length) S) : stC oLen [.ref a] S k ⟨⟩ := by
  show oLen [.ref a] S k
  rw [x_lenR h]
  exact q
theorem x_tupRf : oTuple [.ref a] S k = stC oTuple [.ref a] S k ⟨⟩ := propext Iff.rfl
def frzq (x : D) (S : Sto) (k : DK) (_ : Tag k) : Prop := ∃ a ds, x = .ref a ∧ S a = some (.lst ds) ∧ k (.list ds) (del S a)
theorem frzOf (h : S a = some (.lst ds)) (q : k (.list ds) (del S a)) : frzq (.ref a) S k ⟨⟩ := ⟨a, ds, rfl, h, q⟩
theorem x_frz' : dFrz i δ S k = rdv δ[i]? S (fun x _ => frzq x S k ⟨⟩) ⟨⟩ := x_frz
end
end DL

set_option Elab.async false
set_option linter.all false
set_option maxRecDepth 100000
/-! ### classes of the program's own -/
namespace DL
open PySem L2 Evl EX
/-- a class: what the text has of it, its fields -/
structure ClsD (K : PySem.W.Frag) (C : Addr) (flds : List Str) : Prop where
  cl : Cls K C
  nF : ∀ f ∈ flds, NoAttr K C f
structure MDef (P : Program) (w : World) (K : PySem.W.Frag) (mg : Str → Option Value) (base : Heap) (k : Nat) (C : Addr) (m : Str) (ps : List Str) (sp : Sp) : Prop where
  ex : ∃ (f : Addr) (fd : FuncData), FnOk P w K mg base CX0 k f fd ps sp ∧ Meth K C m f ∧ Binds K fd ps []
structure MkDef (P : Program) (w : World) (K : PySem.W.Frag) (mg : Str → Option Value) (base : Heap) (k : Nat) (x : Str) (C : Addr) (ps : List Str) (sp : Sp) : Prop where
  ex : ∃ (f : Addr) (fd : FuncData), Mk K C f ∧ FnOk P w K mg base CX0 k f fd ps sp ∧ mg x = some (.ref C) ∧ Binds K fd ps []
def putFD (f : Str) (v : D) : List (Str × D) → List (Str × D)
  | [] => [(f, v)]
  | (g, w) :: r => if g = f then (g, v) :: r else (g, w) :: putFD f v r
section
variable {K : PySem.W.Frag} {B : Hp}
theorem rdkv_lookup {f : Str} : ∀ {fs : List (Str × V)} {gs : List (Str × D)}, RdKV K B fs gs → ∀ {d : D}, gs.lookup f = some d → ∃ v, fs.lookup f = some v ∧ RdD K B v d
  | _, _, .nil, _, h => by cases h
  | (a, v) :: fs, (b, e) :: gs, .cons h r, d, hd => by
    obtain ⟨h1, h2⟩ := h
    have h1 : a = b := h1
    subst h1
    rw [List.lookup_cons] at hd ⊢
    cases q : f == a with
    | true => rw [q] at hd; cases hd; exact ⟨v, rfl, h2⟩
    | false => rw [q] at hd; exact rdkv_lookup r hd
theorem rdkv_none {f : Str} : ∀ {fs : List (Str × V)} {gs : List (Str × D)}, RdKV K B fs gs → gs.lookup f = none → fs.lookup f = none
  | _, _, .nil, _ => rfl
  | (a, v) :: fs, (b, e) :: gs, .cons h r, hd => by
    have h1 : a = b := h.1
    subst h1
    rw [List.lookup_cons] at hd ⊢
    cases q : f == a with
    | true => rw [q] at hd; cases hd
    | false => rw [q] at hd; exact rdkv_none r hd
theorem rdkv_put {f : Str} {v : V} {d : D} (hv : RdD K B v d) : ∀ {fs : List (Str × V)} {gs : List (Str × D)}, RdKV K B fs gs → RdKV K B (putF f v fs) (putFD f d gs)
  | _, _, .nil => .cons ⟨rfl, hv⟩ .nil
  | (a, w) :: fs, (b, e) :: gs, .cons h r => by
    have h1 : a = b := h.1
    subst h1
    unfold putF putFD
    by_cases q : a = f
    · rw [if_pos q, if_pos q]
      exact .cons ⟨rfl, hv⟩ r
    · rw [if_neg q, if_neg q]
      exact .cons h (rdkv_put hv r)
end
def fldq (C : Addr) (x : D) (f : Str) (S : Sto) (k : DK) (_ : Tag k) : Prop := ∃ a dx fs v, x = .ref a ∧ S a = some (.ins C dx fs) ∧ fs.lookup f = some v ∧ k v S
def dFld (C : Addr) (de : DE) (f : Str) : DE := fun δ S k => de δ S fun x S1 => fldq C x f S1 k ⟨⟩
def fldsq (C : Addr) (x : D) (f : Str) (y : D) (S : Sto) (k : Sto → Prop) (_ : Tag k) : Prop := ∃ a dx fs, x = .ref a ∧ S a = some (.ins C dx fs) ∧ fs.length < 1000 ∧ k (put S a (.ins C dx (putFD f y fs)))
def dFldS (C : Addr) (dv dO : DE) (f : Str) : DS := fun E δ S => dv δ S fun y S1 => dO δ S1 fun x S2 => fldsq C x f y S2 (fun S3 => E.nx δ S3) ⟨⟩
/-- o.f op= e, of ints -/
def dFldA (C : Addr) (g : Int → Int → Int) (dv dO : DE) (f : Str) : DS := fun E δ S => dO δ S fun x S1 => fldq C x f S1 (fun v S2 => dv δ S2 fun y S3 => st2 (oI fun i j => .int (g i j)) v y S3 (fun z S4 => fldsq C x f z S4 (fun S5 => E.nx δ S5) ⟨⟩) ⟨⟩) ⟨⟩
def dMeth (C : Addr) (m : Str) (f : SpD) (dO : DE) (da : DA) : DE := fun δ S k => dO δ S fun x S1 => need (∃ a dx fs, x = .ref a ∧ S1 a = some (.ins C dx fs) ∧ fs.lookup m = none) (da δ S1 fun xs S2 => ask f (x :: xs) S2 k ⟨⟩) ⟨⟩
def dMake (C : Addr) (f : SpD) (da : DA) : DE := fun δ S k => da δ S fun xs S1 => fresh S1 (fun a => ∀ dx, ask f (.ref a :: xs) (put S1 a (.ins C dx [])) (fun v S2 => v = .non ∧ k (.ref a) S2) ⟨⟩) ⟨⟩
section
variable {X : Cx} {K : PySem.W.Frag} {W : WXD} {C : Addr} {o e value : Expr} {es : List Expr} {f m x : Str} {dO dv de : DE} {da : DA} {pos pos' apos tpos p : Pos} {flds : List Str} {k : Nat} {ps : List Str} {sp : SpD}
theorem de_fld (hc : ClsD K C flds) (hf : f ∈ flds) (h : PE X e (lE K de)) (hb : attributeBase e f X.env (eval e X.env) = eval e X.env := by rfl) (hk : X.K = K := by rfl) : PE X (.Attribute e f pos) (lE K (dFld C de f)) := by
  subst hk
  refine peOf (pe_fld h hb) fun σ H Q ⟨B, δ, S, k, s, r, h, q⟩ => ⟨B, δ, S, _, s, r, h, fun x S1 v B1 H1 h1 e1 r1 d1 => ?_⟩
  obtain ⟨a, dx, fs, v', rfl, ha, hl, h1⟩ := h1
  obtain ⟨gs, hg, rg⟩ := r1.ins ha
  obtain ⟨w, hw, rw'⟩ := rdkv_lookup rg hl
  cases rd_ref d1
  exact ⟨a, C, dx, gs, w, rfl, hg, hc.cl, hc.nF f hf, hw, q _ S1 _ B1 H1 h1 e1 r1 rw'⟩
theorem ds_fld (hc : ClsD K C flds) (hf : f ∈ flds) (ha : PE X o (lE K dO)) (hv : PE X value (lE K dv)) (hs : swapsWith value (some (.Attribute o f pos')) pos.line X.env = pure false := by rfl) (hk : X.K = K := by rfl) : PS X (.Assign [.Attribute o f pos'] value pos) (lS K W (dFldS C dv dO f)) := by
  subst hk
  refine psOf (ps_fld ha hv hs) fun E σ H ⟨B, δ, S, D, s, r, h, l⟩ => ⟨B, δ, S, _, s, r, h, fun y S1 w B1 H1 h1 e1 r1 d1 => ⟨B1, δ, S1, _, s.mono e1, r1, h1, fun x S2 v B2 H2 h2 e2 r2 d2 => ?_⟩⟩
  obtain ⟨a, dx, fs, rfl, ha, hl, h2⟩ := h2
  obtain ⟨gs, hg, rg⟩ := r2.ins ha
  cases rd_ref d2
  exact ⟨a, C, dx, gs, rfl, hg, hc.cl, hc.nF f hf, by rw [rdkv_len rg]; exact hl, l.nx δ _ σ B2 _ h2 (e1.trans e2) (s.mono (e1.trans e2)) (r2.mut ha (.ins (rdkv_put (d1.mono e2) rg)))⟩
theorem ds_fldaug {op : Operator} {g : Int → Int → Int} (hc : ClsD K C flds) (hf : f ∈ flds) (ha : PE X o (lE K dO)) (hv : PE X value (lE K dv)) (ho : InOp X op (fun x y H Q => ∃ i j, x = .int i ∧ y = .int j ∧ Q (.int (g i j)) H)) (hk : X.K = K := by rfl) : PS X (.AugAssign (.Attribute o f tpos) op value pos) (lS K W (dFldA C g dv dO f)) := by
  subst hk
  refine psOf (ps_fldaug ha hv ho) fun E σ H ⟨B, δ, S, D, s, r, h, l⟩ => ⟨B, δ, S, _, s, r, h, fun x S1 v B1 H1 h1 e1 r1 d1 => ?_⟩
  obtain ⟨a, dx, fs, v', rfl, ha, hl, h1⟩ := h1
  obtain ⟨gs, hg, rg⟩ := r1.ins ha
  obtain ⟨w, hw, rw'⟩ := rdkv_lookup rg hl
  cases rd_ref d1
  refine ⟨a, C, dx, gs, w, rfl, hg, hc.cl, hc.nF f hf, hw, B1, δ, S1, _, s.mono e1, r1, h1, fun y S3 v3 B3 H3 h3 e3 r3 d3 => ?_⟩
  have h4 : oI (fun i j => .int (g i j)) v' y S3 _ := h3
  clear h3
  unfold oI at h4
  split at h4
  · rename_i i j
    cases rd_int rw'
    cases rd_int d3
    obtain ⟨a2, dx2, fs2, e2, ha2, hl2, h4⟩ := h4
    cases e2
    obtain ⟨gs2, hg2, rg2⟩ := r3.ins ha2
    exact ⟨i, j, rfl, rfl, dx2, gs2, hg2, by rw [rdkv_len rg2]; exact hl2, l.nx δ _ σ B3 _ h4 (e1.trans e3) (s.mono (e1.trans e3)) (r3.mut ha2 (.ins (rdkv_put (.int _) rg2)))⟩
  · exact h4.elim
theorem de_meth {pl : Sem Bool} (hc : ClsD K C flds) (h : MDef X.prog X.w X.K X.mg X.base k C m ps (lSp K sp)) (hr : Room k X.A) (he : PE X o (lE K dO)) (ha : PA X (e :: es) (lA K da))
    (hst : starEach (e :: es) X.env = (false, eval e X.env) :: starEach es X.env := by rfl) (hpl : (backTo pos (starEach es X.env)).any (·.1) = false := by rfl)
    (ht : eval (.Call (.Attribute o m apos) (e :: es) [] pos) X.env = (do
      let ov ← eval o X.env
      standAt apos.atName
      let (f, first) ← holding [ov] (getMethod ov m pl)
      callWith pos f first (backTo pos (starEach (e :: es) X.env)) (backToKw pos (keywordEach [] X.env))) := by rfl) (hk : X.K = K := by rfl) :
    PE X (.Call (.Attribute o m apos) (e :: es) [] pos) (lE K (dMeth C m sp dO da)) := by
  subst hk
  obtain ⟨f, fd, F, hm, hb⟩ := h.ex
  refine peOf (pe_meth he hc.cl hm F hr hb .nil pass0 ha hst hpl ht) fun σ H Q ⟨B, δ, S, k, s, r, h, q⟩ => ⟨B, δ, S, _, s, r, h, fun x S1 v B1 H1 ⟨⟨a, dx, fs, hx, ha, hl⟩, h1⟩ e1 r1 d1 => ?_⟩
  subst hx
  obtain ⟨gs, hg, rg⟩ := r1.ins ha
  cases rd_ref d1
  refine ⟨a, dx, gs, rfl, hg, rdkv_none rg hl, B1, δ, S1, _, s.mono e1, r1, h1, fun xs S2 vs B2 H2 h2 e2 r2 d2 => ⟨B2, .ref a :: xs, S2, k, _, ?_, r2, h2, fun z S' u B' H' hk e' => q z S' u B' H' hk (e1.trans (e2.trans e')), fun _ _ _ _ _ z => z.elim⟩⟩
  rw [List.append_nil]
  exact .cons (.ref a) d2
theorem de_meth0 {pl : Sem Bool} (hc : ClsD K C flds) (h : MDef X.prog X.w X.K X.mg X.base k C m ps (lSp K sp)) (hr : Room k X.A) (he : PE X o (lE K dO))
    (ht : eval (.Call (.Attribute o m apos) [] [] pos) X.env = (do
      let ov ← eval o X.env
      standAt apos.atName
      let (f, first) ← holding [ov] (getMethod ov m pl)
      callWith pos f first (backTo pos (starEach [] X.env)) (backToKw pos (keywordEach [] X.env))) := by rfl) (hk : X.K = K := by rfl) :
    PE X (.Call (.Attribute o m apos) [] [] pos) (lE K (dMeth C m sp dO dNil)) := by
  subst hk
  obtain ⟨f, fd, F, hm, hb⟩ := h.ex
  refine peOf (pe_meth0 he hc.cl hm F hr hb .nil pass0 ht) fun σ H Q ⟨B, δ, S, k, s, r, h, q⟩ => ⟨B, δ, S, _, s, r, h, fun x S1 v B1 H1 ⟨⟨a, dx, fs, hx, ha, hl⟩, h1⟩ e1 r1 d1 => ?_⟩
  subst hx
  obtain ⟨gs, hg, rg⟩ := r1.ins ha
  cases rd_ref d1
  exact ⟨a, dx, gs, rfl, hg, rdkv_none rg hl, B1, [.ref a], S1, k, _, .one (.ref a), r1, h1, fun z S' u B' H' hk e' => q z S' u B' H' hk (e1.trans e'), fun _ _ _ _ _ z => z.elim⟩
theorem R.made {B H : Hp} {S : Sto} (r : R K B S H) {a dx : Addr} (h1 : H a = none) (h2 : H dx = none) (hn : dx ≠ a) : R K (upd B dx (.own a)) (put S a (.ins C dx [])) (upd (upd H dx (.own a)) a (.ins C dx [])) ∧ Ex B (upd B dx (.own a)) := by
  have n := r.new (o := .own a) h2
  exact ⟨n.1.newS (by rw [upd_ne hn.symm]; exact h1) (.ins .nil), n.2⟩
theorem de_make (h : MkDef X.prog X.w X.K X.mg X.base k x C ps (lSp K sp)) (hr : Room (k + 1) X.A) (hg : Gl X x) (ha : PA X (e :: es) (lA K da))
    (hdb : (x == ("__debug__" : Str)) = false := by decide) (he : starEach (e :: es) X.env = (false, eval e X.env) :: starEach es X.env := by rfl) (hpl : (backTo pos (starEach es X.env)).any (·.1) = false := by rfl) (hk : X.K = K := by rfl) :
    PE X (.Call (.Name x p) (e :: es) [] pos) (lE K (dMake C sp da)) := by
  subst hk
  obtain ⟨f, fd, M, F, hm, hb⟩ := h.ex
  refine peOf (pe_make M F hr hg hm hb .nil pass0 ha hdb he hpl) fun σ H Q ⟨B, δ, S, k, s, r, h, q⟩ => ⟨B, δ, S, _, s, r, h, fun xs S1 vs B1 H1 h1 e1 r1 d1 a dx na nd ne => ?_⟩
  have r2 := r1.made (C := C) na nd ne
  refine ⟨_, .ref a :: xs, _, _, _, ?_, r2.1, h1 a (r1.fresh na).2 dx, fun v S2 u B2 H2 ⟨hv, hk⟩ e2 r2' d2 => ?_, fun _ _ _ _ _ z => z.elim⟩
  · rw [List.append_nil]
    exact .cons (.ref a) (d1.mono r2.2)
  · subst hv
    exact ⟨rd_non d2, q _ S2 _ B2 H2 hk (e1.trans (r2.2.trans e2)) r2' (.ref a)⟩
theorem de_make0 (h : MkDef X.prog X.w X.K X.mg X.base k x C ps (lSp K sp)) (hr : Room (k + 1) X.A) (hg : Gl X x) (hdb : (x == ("__debug__" : Str)) = false := by decide) (hk : X.K = K := by rfl) :
    PE X (.Call (.Name x p) [] [] pos) (lE K (dMake C sp dNil)) := by
  subst hk
  obtain ⟨f, fd, M, F, hm, hb⟩ := h.ex
  refine peOf (pe_make0 M F hr hg hm hb .nil pass0 hdb) fun σ H Q ⟨B, δ, S, k, s, r, h, q⟩ => fun a dx na nd ne => ?_
  have r2 := r.made (C := C) na nd ne
  refine ⟨_, [.ref a], _, _, _, .one (.ref a), r2.1, h a (r.fresh na).2 dx, fun v S2 u B2 H2 ⟨hv, hk⟩ e2 r2' d2 => ?_, fun _ _ _ _ _ z => z.elim⟩
  subst hv
  exact ⟨rd_non d2, q _ S2 _ B2 H2 hk (r2.2.trans e2) r2' (.ref a)⟩
end
section
variable {δ : Dst} {S : Sto} {k : DK} {E : DEnds} {dO dv de : DE} {da : DA} {C a dx : Addr} {f m : Str} {fs : List (Str × D)} {v y : D} {g : Int → Int → Int} {sp : SpD}
theorem x_fld : dFld C de f δ S k = de δ S fun x S1 => fldq C x f S1 k ⟨⟩ := propext Iff.rfl
theorem x_fldS : dFldS C dv dO f E δ S = dv δ S fun y S1 => dO δ S1 fun x S2 => fldsq C x f y S2 (fun S3 => E.nx δ S3) ⟨⟩ := propext Iff.rfl
theorem x_fldA : dFldA C g dv dO f E δ S = dO δ S fun x S1 => fldq C x f S1 (fun v S2 => dv δ S2 fun y S3 => st2 (oI fun i j => .int (g i j)) v y S3 (fun z S4 => fldsq C x f z S4 (fun S5 => E.nx δ S5) ⟨⟩) ⟨⟩) ⟨⟩ := propext Iff.rfl
theorem x_meth : dMeth C m sp dO da δ S k = dO δ S fun x S1 => need (∃ a dx fs, x = .ref a ∧ S1 a = some (.ins C dx fs) ∧ fs.lookup m = none) (da δ S1 fun xs S2 => ask sp (x :: xs) S2 k ⟨⟩) ⟨⟩ := propext Iff.rfl
theorem x_make : dMake C sp da δ S k = da δ S fun xs S1 => fresh S1 (fun a => ∀ dx, ask sp (.ref a :: xs) (put S1 a (.ins C dx [])) (fun v S2 => v = .non ∧ k (.ref a) S2) ⟨⟩) ⟨⟩ := propext Iff.rfl
theorem fldOf (h : S a = some (.ins C dx fs)) (hl : fs.lookup f = some v) (q : k v S) : fldq C (.ref a) f S k ⟨⟩ := ⟨a, dx, fs, v, rfl, h, hl, q⟩
theorem fldsOf {k : Sto → Prop} (h : S a = some (.ins C dx fs)) (hl : fs.length < 1000) (q : k (put S a (.ins C dx (putFD f y fs)))) : fldsq C (.ref a) f y S k ⟨⟩ := ⟨a, dx, fs, rfl, h, hl, q⟩
theorem methOf {x : D} (h : S a = some (.ins C dx fs)) (hl : fs.lookup m = none) : ∃ b dy gs, D.ref a = .ref b ∧ S b = some (.ins C dy gs) ∧ gs.lookup m = none := ⟨a, dx, fs, rfl, h, hl⟩
end
end DL

set_option Elab.async false
set_option linter.all false
set_option maxRecDepth 100000
/-! ### dicts of the store -/
namespace DL
open PySem L2 Evl EX
def keyD : D → Option Key
  | .int i => some (.inl i)
  | .str s => some (.inr s)
  | _ => none
def gval {β : Type} (kvs : List (Key × β)) (k : Key) : Option β := (kvs.find? fun kv => decide (kv.1 = k)).map (·.2)
def gput {β : Type} (kvs : List (Key × β)) (k : Key) (v : β) : List (Key × β) := if (kvs.any fun kv => decide (kv.1 = k)) = true then kvs.map (fun kv => if kv.1 = k then (kv.1, v) else kv) else kvs ++ [(k, v)]
def gdrop {β : Type} (kvs : List (Key × β)) (k : Key) : List (Key × β) := kvs.filter fun kv => decide (kv.1 ≠ k)
def dK (k : Key) : D := match k with
  | .inl i => .int i
  | .inr s => .str s
section
variable {K : PySem.W.Frag} {B : Hp}
theorem keyD_ok {v : V} {d : D} {k : Key} (h : keyD d = some k) (r : RdD K B v d) : v = kV k := by
  cases r <;> first | (cases h; rfl) | cases h
theorem rd_kV (k : Key) : RdD K B (kV k) (dK k) := by
  cases k with
  | inl i => exact .int i
  | inr s => exact .str s
theorem rdkv_val {k : Key} : ∀ {fs : List (Key × V)} {gs : List (Key × D)}, RdKV K B fs gs → match gval gs k with
    | some d => ∃ v, valV fs k = some v ∧ RdD K B v d
    | none => valV fs k = none
  | _, _, .nil => rfl
  | (a, v) :: fs, (b, e) :: gs, .cons h r => by
    have h1 : a = b := h.1
    subst h1
    have ih := rdkv_val (k := k) r
    by_cases q : a = k
    · have e1 : gval ((a, e) :: gs) k = some e := by simp [gval, List.find?_cons, q]
      rw [e1]
      exact ⟨v, by simp [valV, List.find?_cons, q], h.2⟩
    · have e1 : gval ((a, e) :: gs) k = gval gs k := by simp [gval, List.find?_cons, q]
      have e2 : valV ((a, v) :: fs) k = valV fs k := by simp [valV, List.find?_cons, q]
      rw [e1, e2]
      exact ih
theorem rdkv_some {k : Key} {fs : List (Key × V)} {gs : List (Key × D)} {d : D} (r : RdKV K B fs gs) (h : gval gs k = some d) : ∃ v, valV fs k = some v ∧ RdD K B v d := by
  have := rdkv_val (k := k) r
  rw [h] at this
  exact this
theorem rdkv_isSome {k : Key} {fs : List (Key × V)} {gs : List (Key × D)} (r : RdKV K B fs gs) : (valV fs k).isSome = (gval gs k).isSome := by
  have := rdkv_val (k := k) r
  cases h : gval gs k with
  | none => rw [h] at this; rw [this]; rfl
  | some d => rw [h] at this; obtain ⟨v, hv, _⟩ := this; rw [hv]; rfl
theorem rdkv_any {k : Key} : ∀ {fs : List (Key × V)} {gs : List (Key × D)}, RdKV K B fs gs → (fs.any fun kv => decide (kv.1 = k)) = (gs.any fun kv => decide (kv.1 = k))
  | _, _, .nil => rfl
  | (a, v) :: fs, (b, e) :: gs, .cons h r => by
    have h1 : a = b := h.1
    subst h1
    rw [List.any_cons, List.any_cons, rdkv_any r]
theorem rdkv_map {k : Key} {v : V} {d : D} (hv : RdD K B v d) : ∀ {fs : List (Key × V)} {gs : List (Key × D)}, RdKV K B fs gs → RdKV K B (fs.map fun kv => if kv.1 = k then (kv.1, v) else kv) (gs.map fun kv => if kv.1 = k then (kv.1, d) else kv)
  | _, _, .nil => .nil
  | (a, w) :: fs, (b, e) :: gs, .cons h r => by
    have h1 : a = b := h.1
    subst h1
    rw [List.map_cons, List.map_cons]
    refine .cons ?_ (rdkv_map hv r)
    show (if a = k then (a, v) else (a, w)).1 = (if a = k then (a, d) else (a, e)).1 ∧ RdD K B (if a = k then (a, v) else (a, w)).2 (if a = k then (a, d) else (a, e)).2
    by_cases q : a = k
    · rw [if_pos q, if_pos q]
      exact ⟨rfl, hv⟩
    · rw [if_neg q, if_neg q]
      exact ⟨rfl, h.2⟩
theorem rdkv_app : ∀ {fs fs' : List (Key × V)} {gs gs' : List (Key × D)}, RdKV K B fs gs → RdKV K B fs' gs' → RdKV K B (fs ++ fs') (gs ++ gs')
  | _, _, _, _, .nil, s => s
  | _, _, _, _, .cons h r, s => .cons h (rdkv_app r s)
theorem rdkv_gput {k : Key} {v : V} {d : D} (hv : RdD K B v d) {fs : List (Key × V)} {gs : List (Key × D)} (r : RdKV K B fs gs) : RdKV K B (putK fs k v) (gput gs k d) := by
  unfold putK gput
  rw [rdkv_any r]
  split
  · exact rdkv_map hv r
  · exact rdkv_app r (.cons ⟨rfl, hv⟩ .nil)
theorem rdkv_drop {k : Key} : ∀ {fs : List (Key × V)} {gs : List (Key × D)}, RdKV K B fs gs → RdKV K B (dropK fs k) (gdrop gs k)
  | _, _, .nil => .nil
  | (a, w) :: fs, (b, e) :: gs, .cons h r => by
    have h1 : a = b := h.1
    subst h1
    unfold dropK gdrop
    rw [List.filter_cons, List.filter_cons]
    by_cases q : a = k
    · simp only [q, ne_eq, not_true_eq_false, decide_false, Bool.false_eq_true, if_false]
      exact rdkv_drop r
    · simp only [q, ne_eq, not_false_eq_true, decide_true, if_true]
      exact .cons h (rdkv_drop r)
theorem rdkv_keys : ∀ {fs : List (Key × V)} {gs : List (Key × D)}, RdKV K B fs gs → fs.map (·.1) = gs.map (·.1)
  | _, _, .nil => rfl
  | (a, w) :: fs, (b, e) :: gs, .cons h r => by
    have h1 : a = b := h.1
    subst h1
    rw [List.map_cons, List.map_cons, rdkv_keys r]
theorem rdl_keys : ∀ ks : List Key, RdL K B (ks.map kV) (ks.map dK)
  | [] => .nil
  | k :: ks => .cons (rd_kV k) (rdl_keys ks)
end
def dgetq (x y : D) (S : Sto) (k : DK) (_ : Tag k) : Prop := ∃ a kvs key v, x = .ref a ∧ DctAt S a kvs ∧ keyD y = some key ∧ gval kvs key = some v ∧ k v S
def dDGet (dd dk : DE) : DE := fun δ S k => dd δ S fun x S1 => dk δ S1 fun y S2 => dgetq x y S2 k ⟨⟩
def dinq (neg : Bool) (y x : D) (S : Sto) (k : DK) (_ : Tag k) : Prop := ∃ a kvs key, x = .ref a ∧ DctAt S a kvs ∧ keyD y = some key ∧ k (.bl (if neg then !(gval kvs key).isSome else (gval kvs key).isSome)) S
def dDIn (neg : Bool) (dk dd : DE) : DE := fun δ S k => dk δ S fun y S1 => dd δ S1 fun x S2 => dinq neg y x S2 k ⟨⟩
def isDq (x : D) (S : Sto) (A : Prop) (_ : Tag A) : Prop := (∃ a kvs, x = .ref a ∧ DctAt S a kvs) ∧ A
def dgorq (x y : D) (z : D) (S : Sto) (k : DK) (_ : Tag k) : Prop := ∃ a kvs key, x = .ref a ∧ DctAt S a kvs ∧ keyD y = some key ∧ k ((gval kvs key).getD z) S
def dDGet1 (dd dk : DE) : DE := fun δ S k => dd δ S fun x S1 => isDq x S1 (dk δ S1 fun y S2 => dgorq x y .non S2 k ⟨⟩) ⟨⟩
def dDGet2 (dd dk dz : DE) : DE := fun δ S k => dd δ S fun x S1 => isDq x S1 (dk δ S1 fun y S2 => dz δ S2 fun z S3 => dgorq x y z S3 k ⟨⟩) ⟨⟩
def dpopq (x y : D) (S : Sto) (k : DK) (_ : Tag k) : Prop := ∃ a kvs key v, x = .ref a ∧ S a = some (.dct kvs) ∧ keyD y = some key ∧ gval kvs key = some v ∧ k v (put S a (.dct (gdrop kvs key)))
def dDPop (dd dk : DE) : DE := fun δ S k => dd δ S fun x S1 => isDq x S1 (dk δ S1 fun y S2 => dpopq x y S2 k ⟨⟩) ⟨⟩
def dputq (x y v : D) (S : Sto) (k : Sto → Prop) (_ : Tag k) : Prop := ∃ a kvs key, x = .ref a ∧ S a = some (.dct kvs) ∧ keyD y = some key ∧ kvs.length < 100000 ∧ k (put S a (.dct (gput kvs key v)))
def dDPut (dd dk dv : DE) : DS := fun E δ S => dv δ S fun v S1 => dd δ S1 fun x S2 => dk δ S2 fun y S3 => dputq x y v S3 (fun S4 => E.nx δ S4) ⟨⟩
section
variable {X : Cx} {K : PySem.W.Frag} {W : WXD} {o i e f value : Expr} {dd dk dv dz : DE} {pos pos' apos cpos : Pos}
theorem de_dget (hu : X.A.units + 1 < cLine) (ho : PE X o (lE K dd)) (hi : PE X i (lE K dk)) (hs : NoSl i) : PE X (.Subscript o i pos) (lE K (dDGet dd dk)) := peOf (pe_dget hu ho hi hs) fun σ H Q ⟨B, δ, S, k, s, r, h, q⟩ =>
  ⟨B, δ, S, _, s, r, h, fun x S1 v B1 H1 h1 e1 r1 d1 => ⟨B1, δ, S1, _, s.mono e1, r1, h1, fun y S2 w B2 H2 h2 e2 r2 d2 => by
    obtain ⟨a, kvs, key, z, rfl, ha, hk, hv, h2⟩ := h2
    obtain ⟨gs, hg, rg⟩ := r2.dctR ha
    obtain ⟨u, hu, ru⟩ := rdkv_some rg hv
    cases rd_ref d1
    cases keyD_ok hk d2
    exact ⟨a, u, rfl, .inl ⟨gs, key, hg, rfl, hu.symm⟩, q _ S2 _ B2 H2 h2 (e1.trans e2) r2 ru⟩⟩⟩
theorem pc_dinD {neg : Bool} (hu : X.A.units + 1 < cLine) (hi : PE X i (lE K dk)) (ho : PE X o (lE K dd)) : PC X .In i o (lE K (dDIn false dk dd)) := by
  obtain ⟨r⟩ := pc_din hu hi ho
  refine ⟨fun pins s σ H Q I ⟨B, δ, S, k, sl, rr, h, q⟩ => r pins s σ H Q I ⟨B, δ, S, _, sl, rr, h, fun y S1 w B1 H1 h1 e1 r1 d1 => ⟨B1, δ, S1, _, sl.mono e1, r1, h1, fun x S2 v B2 H2 h2 e2 r2 d2 => ?_⟩⟩⟩
  obtain ⟨a, kvs, key, rfl, ha, hk, h2⟩ := h2
  obtain ⟨gs, hg, rg⟩ := r2.dctR ha
  cases rd_ref d2
  cases keyD_ok hk d1
  exact ⟨a, _, rfl, .inl ⟨gs, key, hg, rfl, rfl⟩, by rw [rdkv_isSome rg]; exact q _ S2 _ B2 H2 h2 (e1.trans e2) r2 (.bl _)⟩
theorem pc_dninD {neg : Bool} (hu : X.A.units + 1 < cLine) (hi : PE X i (lE K dk)) (ho : PE X o (lE K dd)) : PC X .NotIn i o (lE K (dDIn true dk dd)) := by
  obtain ⟨r⟩ := pc_dnotin hu hi ho
  refine ⟨fun pins s σ H Q I ⟨B, δ, S, k, sl, rr, h, q⟩ => r pins s σ H Q I ⟨B, δ, S, _, sl, rr, h, fun y S1 w B1 H1 h1 e1 r1 d1 => ⟨B1, δ, S1, _, sl.mono e1, r1, h1, fun x S2 v B2 H2 h2 e2 r2 d2 => ?_⟩⟩⟩
  obtain ⟨a, kvs, key, rfl, ha, hk, h2⟩ := h2
  obtain ⟨gs, hg, rg⟩ := r2.dctR ha
  cases rd_ref d2
  cases keyD_ok hk d1
  exact ⟨a, _, rfl, .inl ⟨gs, key, hg, rfl, rfl⟩, by rw [rdkv_isSome rg]; exact q _ S2 _ B2 H2 h2 (e1.trans e2) r2 (.bl _)⟩
theorem de_din (hu : X.A.units + 1 < cLine) (hi : PE X i (lE K dk)) (ho : PE X o (lE K dd)) (hm : behindInMarks .In o = false := by rfl) : PE X (.Compare i [.In] [o] pos) (lE K (dDIn false dk dd)) := pe_cmp (pc_dinD (neg := false) hu hi ho) hm
theorem dt_din (hu : X.A.units + 1 < cLine) (hi : PE X i (lE K dk)) (ho : PE X o (lE K dd)) (hm : behindInMarks .In o = false := by rfl) : PT X (.Compare i [.In] [o] pos) (lT K (dTest (dDIn false dk dd))) := ptOf (pt_cmp (pc_dinD (neg := false) hu hi ho) hm) l_test
theorem dt_dinN (hu : X.A.units + 1 < cLine) (hi : PE X i (lE K dk)) (ho : PE X o (lE K dd)) (hm : behindInMarks .NotIn o = false := by rfl) : PT X (.Compare i [.NotIn] [o] pos) (lT K (dTest (dDIn true dk dd))) := ptOf (pt_cmp (pc_dninD (neg := true) hu hi ho) hm) l_test
theorem isD_ok {B H : Hp} {S : Sto} {x : D} {v : V} (h : ∃ a kvs, x = .ref a ∧ DctAt S a kvs) (r : R K B S H) (rx : RdD K B v x) : ∃ a, v = .ref a ∧ IsD H a := by
  obtain ⟨a, kvs, rfl, ha⟩ := h
  obtain ⟨gs, hg, _⟩ := r.dctR ha
  exact ⟨a, rd_ref rx, .inl ⟨gs, hg⟩⟩
theorem getD_ok {B : Hp} {gs : List (Key × V)} {kvs : List (Key × D)} {key : Key} {z : D} {w : V} (rg : RdKV K B gs kvs) (hz : RdD K B w z) : RdD K B ((valV gs key).getD w) ((gval kvs key).getD z) := by
  have := rdkv_val (k := key) rg
  cases h : gval kvs key with
  | none => rw [h] at this; rw [this]; exact hz
  | some d => rw [h] at this; obtain ⟨v, hv, rv⟩ := this; rw [hv]; exact rv
theorem de_dgets1 (hu : X.A.units + 1 < cLine) (ho : PE X o (lE K dd)) (he : PE X e (lE K dk)) (m : M1 X o "get" apos e cpos := by exact ⟨rfl, rfl, rfl, rfl⟩) : PE X (.Call (.Attribute o "get" apos) [e] [] cpos) (lE K (dDGet1 dd dk)) := peOf (pe_dget1 hu ho he m) fun σ H Q ⟨B, δ, S, k, s, r, h, q⟩ =>
  ⟨B, δ, S, _, s, r, h, fun x S1 v B1 H1 ⟨hd, h1⟩ e1 r1 d1 => by
    obtain ⟨a0, rfl, hI⟩ := isD_ok hd r1 d1
    refine ⟨a0, rfl, hI, B1, δ, S1, _, s.mono e1, r1, h1, fun y S2 w B2 H2 h2 e2 r2 d2 => ?_⟩
    obtain ⟨a, kvs, key, rfl, ha, hk, h2⟩ := h2
    obtain ⟨gs, hg, rg⟩ := r2.dctR ha
    cases rd_ref d1
    cases keyD_ok hk d2
    exact ⟨_, .inl ⟨gs, key, hg, rfl, rfl⟩, q _ S2 _ B2 H2 h2 (e1.trans e2) r2 (getD_ok rg .non)⟩⟩
theorem de_dgets2 (hu : X.A.units + 1 < cLine) (ho : PE X o (lE K dd)) (he : PE X e (lE K dk)) (hf : PE X f (lE K dz)) (m : M2 X o "get" apos e f cpos := by exact ⟨rfl, rfl, rfl, rfl⟩) : PE X (.Call (.Attribute o "get" apos) [e, f] [] cpos) (lE K (dDGet2 dd dk dz)) := peOf (pe_dget2 hu ho he hf m) fun σ H Q ⟨B, δ, S, k, s, r, h, q⟩ =>
  ⟨B, δ, S, _, s, r, h, fun x S1 v B1 H1 ⟨hd, h1⟩ e1 r1 d1 => by
    obtain ⟨a0, rfl, hI⟩ := isD_ok hd r1 d1
    refine ⟨a0, rfl, hI, B1, δ, S1, _, s.mono e1, r1, h1, fun y S2 w B2 H2 h2 e2 r2 d2 => ⟨B2, δ, S2, _, s.mono (e1.trans e2), r2, h2, fun z S3 u B3 H3 h3 e3 r3 d3 => ?_⟩⟩
    obtain ⟨a, kvs, key, rfl, ha, hk, h3⟩ := h3
    obtain ⟨gs, hg, rg⟩ := r3.dctR ha
    cases rd_ref d1
    cases keyD_ok hk d2
    exact ⟨_, .inl ⟨gs, key, hg, rfl, rfl⟩, q _ S3 _ B3 H3 h3 (e1.trans (e2.trans e3)) r3 (getD_ok rg d3)⟩⟩
theorem de_dpop (ho : PE X o (lE K dd)) (he : PE X e (lE K dk)) (m : M1 X o "pop" apos e cpos := by exact ⟨rfl, rfl, rfl, rfl⟩) : PE X (.Call (.Attribute o "pop" apos) [e] [] cpos) (lE K (dDPop dd dk)) := peOf (pe_dpop1 ho he m) fun σ H Q ⟨B, δ, S, k, s, r, h, q⟩ =>
  ⟨B, δ, S, _, s, r, h, fun x S1 v B1 H1 ⟨hd, h1⟩ e1 r1 d1 => by
    obtain ⟨a0, rfl, hI⟩ := isD_ok hd r1 d1
    refine ⟨a0, rfl, hI, B1, δ, S1, _, s.mono e1, r1, h1, fun y S2 w B2 H2 h2 e2 r2 d2 => ?_⟩
    obtain ⟨a, kvs, key, z, rfl, ha, hk, hv, h2⟩ := h2
    obtain ⟨gs, hg, rg⟩ := r2.dct ha
    obtain ⟨u, hu, ru⟩ := rdkv_some rg hv
    cases rd_ref d1
    cases keyD_ok hk d2
    exact ⟨gs, key, u, hg, rfl, hu, q _ _ _ B2 _ h2 (e1.trans e2) (r2.mut ha (.dct (rdkv_drop rg))) ru⟩⟩
theorem ds_dput (hu : X.A.units + 1 < cLine) (ho : PE X o (lE K dd)) (hi : PE X i (lE K dk)) (hv : PE X value (lE K dv)) (hs : swapsWith value (some (.Subscript o i pos')) pos.line X.env = pure false := by rfl) : PS X (.Assign [.Subscript o i pos'] value pos) (lS K W (dDPut dd dk dv)) := psOf (ps_dput hu ho hi hv hs) fun E σ H ⟨B, δ, S, D, s, r, h, l⟩ =>
  ⟨B, δ, S, _, s, r, h, fun v S1 w B1 H1 h1 e1 r1 d1 => ⟨B1, δ, S1, _, s.mono e1, r1, h1, fun x S2 u B2 H2 h2 e2 r2 d2 => ⟨B2, δ, S2, _, s.mono (e1.trans e2), r2, h2, fun y S3 z B3 H3 h3 e3 r3 d3 => by
    obtain ⟨a, kvs, key, rfl, ha, hk, hl, h3⟩ := h3
    obtain ⟨gs, hg, rg⟩ := r3.dct ha
    cases rd_ref d2
    cases keyD_ok hk d3
    exact ⟨a, _, rfl, .inl ⟨gs, key, hg, rfl, sz_lt (by rw [rdkv_len rg]; exact hl), rfl⟩, l.nx δ _ σ B3 _ h3 (e1.trans (e2.trans e3)) (s.mono (e1.trans (e2.trans e3))) (r3.mut ha (.dct (rdkv_gput (d1.mono (e2.trans e3)) rg)))⟩⟩⟩⟩
end
section
variable {K : PySem.W.Frag}
/-- list(d): its keys; sorted(d) of numbers -/
def oListD : List D → Sto → DK → Prop := fun xs S k => match xs with
  | [.ref a] => ∃ kvs, DctAt S a kvs ∧ k (.list (kvs.map fun kv => dK kv.1)) S
  | _ => False
theorem si_listD : SimC K (fun xs H Q => ∃ (a : Addr) (kvs : List (Key × V)), xs = [.ref a] ∧ Rd H a (.dK kvs) ∧ ∀ p, H p = none → Q (.ref p) (upd H p (.lst (kvs.map fun kv => kV kv.1)))) oListD := fun B S H vs xs k Q r rx h1 q => by
  unfold oListD at h1
  split at h1
  · obtain ⟨v, rfl, rv⟩ := rdl1 rx
    cases rd_ref rv
    obtain ⟨kvs, hs, h1⟩ := h1
    obtain ⟨gs, hg, rg⟩ := r.dctR hs
    refine ⟨_, gs, rfl, hg, fun p hp => ?_⟩
    have n := r.new (o := .lst (gs.map fun kv => kV kv.1)) hp
    refine q _ S _ _ _ h1 n.2 n.1 (.lst upd_same ?_)
    have e1 : (gs.map fun kv => kV kv.1) = (gs.map (·.1)).map kV := by rw [List.map_map]; rfl
    have e2 : (kvs.map fun kv => dK kv.1) = (kvs.map (·.1)).map dK := by rw [List.map_map]; rfl
    rw [e1, e2, rdkv_keys rg]
    exact rdl_keys _
  · exact h1.elim
def oSortDI : List D → Sto → DK → Prop := fun xs S k => match xs with
  | [.ref a] => ∃ (kvs : List (Key × D)) (ks : List Int), S a = some (.dct kvs) ∧ kvs.map (·.1) = ks.map Sum.inl ∧ ks.length < 64 ∧ ∀ ys : List Int, ys.Perm ks → ys.Pairwise (· ≤ ·) → k (.list (ys.map D.int)) S
  | _ => False
end
section
variable {δ : Dst} {S : Sto} {k : DK} {E : DEnds} {dd dk dv dz : DE} {a : Addr} {kvs : List (Key × D)} {key : Key} {x y v z : D} {xs : List D}
theorem x_dget : dDGet dd dk δ S k = dd δ S fun x S1 => dk δ S1 fun y S2 => dgetq x y S2 k ⟨⟩ := propext Iff.rfl
theorem x_din {neg : Bool} : dDIn neg dk dd δ S k = dk δ S fun y S1 => dd δ S1 fun x S2 => dinq neg y x S2 k ⟨⟩ := propext Iff.rfl
theorem x_dget1 : dDGet1 dd dk δ S k = dd δ S fun x S1 => isDq x S1 (dk δ S1 fun y S2 => dgorq x y .non S2 k ⟨⟩) ⟨⟩ := propext Iff.rfl
theorem x_dget2 : dDGet2 dd dk dz δ S k = dd δ S fun x S1 => isDq x S1 (dk δ S1 fun y S2 => dz δ S2 fun z S3 => dgorq x y z S3 k ⟨⟩) ⟨⟩ := propext Iff.rfl
theorem x_dpop : dDPop dd dk δ S k = dd δ S fun x S1 => isDq x S1 (dk δ S1 fun y S2 => dpopq x y S2 k ⟨⟩) ⟨⟩ := propext Iff.rfl
theorem x_dput : dDPut dd dk dv E δ S = dv δ S fun v S1 => dd δ S1 fun x S2 => dk δ S2 fun y S3 => dputq x y v S3 (fun S4 => E.nx δ S4) ⟨⟩ := propext Iff.rfl
theorem x_listD : oListD xs S k = stC oListD xs S k ⟨⟩ := propext Iff.rfl
theorem x_sortDI : oSortDI xs S k = stC oSortDI xs S k ⟨⟩ := propext Iff.rfl
theorem x_lenD : oLenD xs S k = stC oLenD xs S k ⟨⟩ := propext Iff.rfl
theorem dgetOf (h : S a = some (.dct kvs)) (hk : keyD y = some key) (hv : gval kvs key = some v) (q : k v S) : dgetq (.ref a) y S k ⟨⟩ := ⟨a, kvs, key, v, rfl, .inl h, hk, hv, q⟩
theorem dgetOfR (h : DctAt S a kvs) (hk : keyD y = some key) (hv : gval kvs key = some v) (q : k v S) : dgetq (.ref a) y S k ⟨⟩ := ⟨a, kvs, key, v, rfl, h, hk, hv, q⟩
theorem dinOf (h : S a = some (.dct kvs)) (hk : keyD y = some key) (q : k (.bl (gval kvs key).isSome) S) : dinq false y (.ref a) S k ⟨⟩ := ⟨a, kvs, key, rfl, .inl h, hk, q⟩
theorem dninOf (h : S a = some (.dct kvs)) (hk : keyD y = some key) (q : k (.bl (!(gval kvs key).isSome)) S) : dinq true y (.ref a) S k ⟨⟩ := ⟨a, kvs, key, rfl, .inl h, hk, q⟩
theorem isDOf {A : Prop} (h : S a = some (.dct kvs)) (q : A) : isDq (.ref a) S A ⟨⟩ := ⟨⟨a, kvs, rfl, .inl h⟩, q⟩
theorem dgorOf (h : S a = some (.dct kvs)) (hk : keyD y = some key) (q : k ((gval kvs key).getD z) S) : dgorq (.ref a) y z S k ⟨⟩ := ⟨a, kvs, key, rfl, .inl h, hk, q⟩
theorem dpopOf (h : S a = some (.dct kvs)) (hk : keyD y = some key) (hv : gval kvs key = some v) (q : k v (put S a (.dct (gdrop kvs key)))) : dpopq (.ref a) y S k ⟨⟩ := ⟨a, kvs, key, v, rfl, h, hk, hv, q⟩
theorem dputOf {k : Sto → Prop} (h : S a = some (.dct kvs)) (hk : keyD y = some key) (hl : kvs.length < 100000) (q : k (put S a (.dct (gput kvs key v)))) : dputq (.ref a) y v S k ⟨⟩ := ⟨a, kvs, key, rfl, h, hk, hl, q⟩
theorem listDOf (h : S a = some (.dct kvs)) (q : k (.list (kvs.map fun kv => dK kv.1)) S) : stC oListD [.ref a] S k ⟨⟩ := ⟨kvs, .inl h, q⟩
theorem gput_new {β : Type} {kvs : List (Key × β)} {v : β} (h : gval kvs key = none) : gput kvs key v = kvs ++ [(key, v)] := by
  unfold gput
  rw [if_neg]
  intro z
  unfold gval at h
  rw [Option.map_eq_none_iff, List.find?_eq_none] at h
  rw [List.any_eq_true] at z
  obtain ⟨p, hp, hq⟩ := z
  exact h p hp hq
end
end DL

set_option Elab.async false
set_option linter.all false
set_option maxRecDepth 100000
/-! ### isinstance beside a class of the program's own -/
namespace DL
open PySem L2 Evl EX
structure IsiC (K : PySem.W.Frag) (C : Addr) : Prop where
  cl : Cls K C
  ha : PySem.W.findIn K (.ref C) "__class__" = some (some (.builtin "object.__class__"))
  hn : PySem.W.specialIn K (.builtin "object.__class__") "__get__" = some (some (.builtin "getset_descriptor.__get__"))
  htk : PySem.W.takesIn K (.builtin "object.__class__") = some true
  hm : PySem.W.mroIn K C (.type "object") = some true
  t1 : PySem.W.kitOne K (.ref C) (.type "bool") = some false
  t2 : PySem.W.kitOne K (.ref C) (.type "int") = some false
  t3 : PySem.W.kitOne K (.ref C) (.type "str") = some false
  f1 : PySem.W.kitOne K (.type "NoneType") (.ref C) = some false
  f2 : PySem.W.kitOne K (.type "bool") (.ref C) = some false
  f3 : PySem.W.kitOne K (.type "int") (.ref C) = some false
  f4 : PySem.W.kitOne K (.type "str") (.ref C) = some false
inductive IsAns (C : Addr) (S : Sto) : D → D → Bool → Prop where
  | ty {x : D} {t c : String} : tyD S x = some t → c ∈ Cs → IsAns C S x (.ty c) (isB t c)
  | ins {a dx : Addr} {fs : List (Str × D)} {c : String} : S a = some (.ins C dx fs) → c = "bool" ∨ c = "int" ∨ c = "str" → IsAns C S (.ref a) (.ty c) false
  | own {a dx : Addr} {fs : List (Str × D)} : S a = some (.ins C dx fs) → IsAns C S (.ref a) (.ref C) true
  | non : IsAns C S .non (.ref C) false
  | bl (b : Bool) : IsAns C S (.bl b) (.ref C) false
  | int (i : Int) : IsAns C S (.int i) (.ref C) false
  | str (s : Str) : IsAns C S (.str s) (.ref C) false
def oIsiC (C : Addr) : List D → Sto → DK → Prop := fun xs S k => match xs with
  | [x, y] => ∃ b, IsAns C S x y b ∧ k (.bl b) S
  | _ => False
theorem ty_ins {S : Sto} {a C dx : Addr} {fs : List (Str × D)} (h : S a = some (.ins C dx fs)) : tyD S (.ref a) = none := by simp only [tyD, h]
theorem IsAns.uni {C : Addr} {S : Sto} {x y : D} {b c : Bool} (h : IsAns C S x y b) (h2 : IsAns C S x y c) : b = c := by
  cases h with
  | ty h1 hc =>
    cases h2 with
    | ty h2 _ => rw [h1] at h2; cases h2; rfl
    | ins h2 _ => rw [ty_ins h2] at h1; cases h1
  | ins h1 _ => cases h2 with
    | ty h2 _ => rw [ty_ins h1] at h2; cases h2
    | ins h2 _ => rfl
  | own h1 => cases h2; rfl
  | non => cases h2; rfl
  | bl b => cases h2; rfl
  | int b => cases h2; rfl
  | str b => cases h2; rfl
section
variable {K : PySem.W.Frag} {C : Addr}
theorem kit_self (a : Addr) : PySem.W.kitOne K (.ref a) (.ref a) = some true := by
  unfold PySem.W.kitOne
  rw [if_pos (by simp)]
theorem si_isiC (hC : IsiC K C) : SimC K (rIsi K) (oIsiC C) := fun B S H vs xs k Q r rx h1 q => by
  unfold oIsiC at h1
  split at h1
  · rename_i x y
    obtain ⟨v, w, rfl, rv, rw'⟩ := rdl2 rx
    obtain ⟨b, hb, h1⟩ := h1
    have ans := q (.bl b) S (.bl b) B H h1 (Ex.refl B) r (.bl b)
    have tyi : ∀ {a dx fs}, S a = some (.ins C dx fs) → TyX K H (.ref a) (.ref C) := fun {a dx fs} h => by
      obtain ⟨gs, hg, _⟩ := r.ins h
      exact .base (.ins hg hC.cl hC.ha hC.hn hC.htk hC.hm)
    cases hb with
    | @ty x t c ht hc =>
      have hw : w = .ty c := by cases rw'; rfl
      subst hw
      exact ⟨v, .ty c, .type t, .type c, isB t c, rfl, .ty c, tyD_ok ht r rv, kit_ty (isB_ok t (tyD_mem ht) c hc), ans⟩
    | @ins a dx fs c h hc =>
      cases rd_ref rv
      have hw : w = .ty c := by cases rw'; rfl
      subst hw
      refine ⟨_, _, .ref C, .type c, false, rfl, .ty c, tyi h, ?_, ans⟩
      rcases hc with rfl | rfl | rfl
      · exact hC.t1
      · exact hC.t2
      · exact hC.t3
    | own h =>
      cases rd_ref rv
      cases rd_ref rw'
      exact ⟨_, _, .ref C, .ref C, true, rfl, .own C, tyi h, kit_self C, ans⟩
    | non =>
      cases rd_non rv
      cases rd_ref rw'
      exact ⟨_, _, .type "NoneType", .ref C, false, rfl, .own C, .base .non, hC.f1, ans⟩
    | bl b =>
      have : v = .bl b := by cases rv; rfl
      subst this
      cases rd_ref rw'
      exact ⟨_, _, .type "bool", .ref C, false, rfl, .own C, .base (.bl b), hC.f2, ans⟩
    | int i =>
      cases rd_int rv
      cases rd_ref rw'
      exact ⟨_, _, .type "int", .ref C, false, rfl, .own C, .base (.int i), hC.f3, ans⟩
    | str i =>
      cases rd_str rv
      cases rd_ref rw'
      exact ⟨_, _, .type "str", .ref C, false, rfl, .own C, .base (.str i), hC.f4, ans⟩
  · exact h1.elim
end
section
variable {C a dx : Addr} {S : Sto} {k : DK} {fs : List (Str × D)} {x y : D} {b : Bool}
theorem x_isiC {xs : List D} : oIsiC C xs S k = stC (oIsiC C) xs S k ⟨⟩ := propext Iff.rfl
theorem isiC_of (h : IsAns C S x y b) : stC (oIsiC C) [x, y] S k ⟨⟩ = k (.bl b) S := propext ⟨fun ⟨c, hc, q⟩ => by rw [h.uni hc]; exact q, fun q => ⟨b, h, q⟩⟩
theorem x_icS {s : Str} {c : String} (hc : c ∈ Cs) : stC (oIsiC C) [.str s, .ty c] S k ⟨⟩ = k (.bl (isB "str" c)) S := isiC_of (.ty rfl hc)
theorem x_icI {s : Int} {c : String} (hc : c ∈ Cs) : stC (oIsiC C) [.int s, .ty c] S k ⟨⟩ = k (.bl (isB "int" c)) S := isiC_of (.ty rfl hc)
theorem x_icB {s : Bool} {c : String} (hc : c ∈ Cs) : stC (oIsiC C) [.bl s, .ty c] S k ⟨⟩ = k (.bl (isB "bool" c)) S := isiC_of (.ty rfl hc)
theorem x_icN {c : String} (hc : c ∈ Cs) : stC (oIsiC C) [.non, .ty c] S k ⟨⟩ = k (.bl (isB "NoneType" c)) S := isiC_of (.ty rfl hc)
theorem x_ioS {s : Str} : stC (oIsiC C) [.str s, .ref C] S k ⟨⟩ = k (.bl false) S := isiC_of (.str s)
theorem x_ioI {s : Int} : stC (oIsiC C) [.int s, .ref C] S k ⟨⟩ = k (.bl false) S := isiC_of (.int s)
theorem x_ioB {s : Bool} : stC (oIsiC C) [.bl s, .ref C] S k ⟨⟩ = k (.bl false) S := isiC_of (.bl s)
theorem x_ioN : stC (oIsiC C) [.non, .ref C] S k ⟨⟩ = k (.bl false) S := isiC_of .non
theorem x_own (h : S a = some (.ins C dx fs)) : stC (oIsiC C) [.ref a, .ref C] S k ⟨⟩ = k (.bl true) S := isiC_of (.own h)
end
end DL

set_option Elab.async false
set_option linter.all false
set_option maxRecDepth 100000
/-! ### texts as lists of signs; the figures of numbers -/
namespace DL
open PySem L2 Evl EX
theorem nF_nil {K : PySem.W.Frag} {C : Addr} : ∀ f ∈ ([] : List Str), NoAttr K C f := fun _ z => nomatch z
theorem nF_cons {K : PySem.W.Frag} {C : Addr} {f : Str} {fs : List Str} (h : PySem.W.findIn K (.ref C) f = some none) (r : ∀ g ∈ fs, NoAttr K C g) : ∀ g ∈ f :: fs, NoAttr K C g := fun g hg => by
  rcases List.mem_cons.mp hg with rfl | hg
  · exact h
  · exact r g hg
theorem ixMem {S : Sto} {k : DK} {ds : List D} {i : Int} {m : Nat} (h : ds.length = m) (h0 : 0 ≤ i) (h1 : i < m) (q : ∀ d ∈ ds, k d S) : ixq (.list ds) i S k ⟨⟩ := by
  obtain ⟨j, rfl⟩ := Int.eq_ofNat_of_zero_le h0
  have hj : j < ds.length := by omega
  exact ixAt (.inl rfl) (List.getElem?_eq_getElem hj) (q _ (List.getElem_mem hj))
end DL

set_option Elab.async false
set_option linter.all false
set_option maxRecDepth 100000
/-! ### == beside an instance of a class without an __eq__ of its own -/
namespace OE
open PySem PySem.Spec PyProof.Rows PySem.SeqAt
open AutoSeq1 (wpAny_loadPart')
section
variable {prog : Program} {w : World} {M : Model} {A : Around} {E : Value → Shared → Prop} {s : Shared} {K : PySem.W.Frag} {x y C D dx : Addr} {ox oy : Obj} {od oe : Option Obj} {u : Value} {T : String}
/-! two instances of one class -/
theorem callO {Q : Value → Shared → Prop} (X : K.In s.heap) (I : PySem.W.InstAt s.heap x ox C od) (J : PySem.W.InstAt s.heap y oy D oe) (hn : x ≠ y) (hm : PySem.W.mroIn K C (.type "object") = some true) (hq : Q .notImplemented s) :
    wpAny (model prog w) A (call (.builtin "object.__eq__") [.ref x, .ref y]) Q E s :=
  wpAny_call (codeAny_call_builtin F.cmp_object.eq.plain F.cmpEntry_eq (PySem.W.check_slot F.cmpKind_eq F.cmpSplit_eq (I.type.andThen (PySem.W.looks_mroIn X hm)) (F.cmpArgs_eq _ _) (objEq_entry_other hn I.at_ J.at_ (by rw [I.cls]; intro e; cases e) hq)))
theorem rcO (hA : A.units < cLine) (X : K.In s.heap) (I : PySem.W.InstAt s.heap x ox C od) (J : PySem.W.InstAt s.heap y oy C oe) (hn : x ≠ y) (hm : PySem.W.mroIn K C (.type "object") = some true) (hs : PySem.W.findIn K (.ref C) "__eq__" = some (some (.builtin "object.__eq__"))) : RcAt A s (.ref x) (.ref y) false := fun prog w E Q h => by
  simp only [richCompare, cmpInfo_Eq, oneThing_ref]
  refine wpAny_holding (wpAny_bind (wpAny_cRoomFor hA ?_))
  refine wpAny_bind (I.type.here ?_)
  refine wpAny_bind (J.type.here ?_)
  rw [if_neg (by simp)]
  refine wpAny_bind (wpAny_pure ?_)
  simp only [Bool.false_eq_true, if_false, Bool.not_false, if_true]
  refine wpAny_bind (m := tryCompare (.ref x) _ (.ref y)) ?_
  unfold tryCompare
  refine wpAny_bind (HN.ifBound_objEq X I hs (callO X I J hn hm (wpAny_pure ?_)))
  refine wpAny_bind (wpAny_bind (HN.ifBound_objEq X J hs (callO X J I hn.symm hm (wpAny_pure ?_))))
  exact wpAny_bind (wpAny_rule (wpAny_bind (wpAny_isSame_ref_other hn I.at_ J.at_ (by rw [I.cls]; intro e; cases e) (wpAny_pure h))))
end
end OE

set_option Elab.async false
set_option linter.all false
set_option maxRecDepth 100000
/-! ### == beside instances; in lists of mixed data; is False; a list put together that changes -/
namespace DL
open PySem L2 Evl EX
/-! data of any kinds -/
mutual
def D.any : D → Bool
  | .non => true
  | .int _ => true
  | .bl _ => true
  | .str x => PyData.strOk x
  | .list ds => anyL ds
  | .tup ds => anyL ds
  | _ => false
def anyL : List D → Bool
  | [] => true
  | d :: ds => d.any && anyL ds
end
mutual
theorem pyA_lay : ∀ d : D, d.any = true → d.py.canLay0 = true
  | .non, _ => rfl
  | .int _, _ => rfl
  | .str x, h => by simpa [D.any, D.py, PyData.canLay0] using h
  | .list ds, h => by
    rw [D.any] at h
    rw [D.py, PyData.canLay0]
    exact pyLA_lay ds h
  | .tup ds, h => by
    rw [D.any] at h
    rw [D.py, PyData.canLay0]
    exact pyLA_lay ds h
  | .bl _, h => rfl
  | .ref _, h => by cases h
  | .ty _, h => by cases h
  | .scr _, h => by simp [D.any] at h
theorem pyLA_lay : ∀ ds : List D, anyL ds = true → PyData.canLayAll0 (pyL ds) = true
  | [], _ => rfl
  | d :: ds, h => by
    rw [anyL, Bool.and_eq_true] at h
    rw [pyL, PyData.canLayAll0, pyA_lay d h.1, pyLA_lay ds h.2]
    rfl
end
mutual
theorem pyA_deep : ∀ d : D, d.any = true → d.py.depth = d.deep
  | .non, _ => rfl
  | .int _, _ => rfl
  | .str x, h => rfl
  | .list ds, h => by
    rw [D.any] at h
    rw [D.py, PyData.depth, D.deep, pyLA_deep ds h]
  | .tup ds, h => by
    rw [D.any] at h
    rw [D.py, PyData.depth, D.deep, pyLA_deep ds h]
  | .bl _, h => rfl
  | .ref _, h => by cases h
  | .ty _, h => by cases h
  | .scr _, h => by simp [D.any] at h
theorem pyLA_deep : ∀ ds : List D, anyL ds = true → PyData.depthAll (pyL ds) = deepL ds
  | [], _ => rfl
  | d :: ds, h => by
    rw [anyL, Bool.and_eq_true] at h
    rw [pyL, PyData.depthAll, deepL, pyA_deep d h.1, pyLA_deep ds h.2]
end
section
variable {K : PySem.W.Frag} {B H : Hp}
mutual
theorem dpA_of (e : Ex B H) : ∀ {v : V} {d : D}, RdD K B v d → d.any = true → Dp K H v d.py
  | _, _, .non, _ => .non
  | _, _, .int i, _ => .int i
  | _, _, .str x, _ => .str x
  | _, _, .lst ha r, h => by
    rw [D.any] at h
    rw [D.py]
    exact .lst (sq_of (e _ _ ha)) (dpLA_of e r h)
  | _, _, .tup ha r, h => by
    rw [D.any] at h
    rw [D.py]
    exact .tup (ex_t e ha) (dpLA_of e r h)
  | _, _, .bl b, h => .bl b
  | _, _, .ref _, h => by cases h
  | _, _, .ty _, h => by cases h
  | _, _, .scr _ _, h => by simp [D.any] at h
theorem dpLA_of (e : Ex B H) : ∀ {vs : List V} {ds : List D}, RdL K B vs ds → anyL ds = true → DpAll K H vs (pyL ds)
  | _, _, .nil, _ => .nil
  | _, _, .cons h r, hn => by
    rw [anyL, Bool.and_eq_true] at hn
    rw [pyL]
    exact .cons (dpA_of e h hn.1) (dpLA_of e r hn.2)
end
end
def oNinA : DR2 := fun x y S k => ∃ ds, y = .list ds ∧ x.any = true ∧ anyL ds = true ∧ x.deep ≤ 64 ∧ deepL ds ≤ 60 ∧ k (.bl (!(pyL ds).any fun z => PyData.eqv z x.py)) S
section
variable {K : PySem.W.Frag}
/-- x + y, lists, as a list that changes -/
def oCatN : DR2 := fun x y S k => match x, y with
  | .list a, .list b => a.length + b.length ≤ 100000 ∧ ∀ p, S p = none → k (.ref p) (put S p (.lst (a ++ b)))
  | _, _ => False
/-! x is False -/
def oIsBl : DR2 := fun x y S k => match y with
  | .bl b => match x with
    | .bl c => k (.bl (decide (c = b))) S
    | .non => k (.bl false) S
    | .int _ => k (.bl false) S
    | .str _ => k (.bl false) S
    | .ref _ => k (.bl false) S
    | _ => False
  | _ => False
end
/-! == beside instances of one class -/
structure EqC (K : PySem.W.Frag) (C : Addr) : Prop where
  hm : PySem.W.mroIn K C (.type "object") = some true
  hs : PySem.W.findIn K (.ref C) "__eq__" = some (some (.builtin "object.__eq__"))
  s1 : PySem.W.subIn K (.type "NoneType") (.ref C) = some false
  s2 : PySem.W.subIn K (.type "bool") (.ref C) = some false
  s3 : PySem.W.subIn K (.type "str") (.ref C) = some false
  s4 : PySem.W.subIn K (.ref C) (.type "NoneType") = some false
  s5 : PySem.W.subIn K (.ref C) (.type "bool") = some false
  s6 : PySem.W.subIn K (.ref C) (.type "str") = some false
inductive Fl3 : V → Prop where
  | non : Fl3 .non
  | bl (b : Bool) : Fl3 (.bl b)
  | str (s : Str) : Fl3 (.str s)
inductive EqA (C : Addr) (S : Sto) : D → D → Bool → Prop where
  | flat {x y : D} {b : Bool} (h : sEq x y = some b) : EqA C S x y b
  | rn {a dx : Addr} {fs : List (Str × D)} (h : S a = some (.ins C dx fs)) : EqA C S (.ref a) .non false
  | rb {a dx : Addr} {fs : List (Str × D)} (h : S a = some (.ins C dx fs)) (b : Bool) : EqA C S (.ref a) (.bl b) false
  | rs {a dx : Addr} {fs : List (Str × D)} (h : S a = some (.ins C dx fs)) (s : Str) : EqA C S (.ref a) (.str s) false
  | nr {a dx : Addr} {fs : List (Str × D)} (h : S a = some (.ins C dx fs)) : EqA C S .non (.ref a) false
  | br {a dx : Addr} {fs : List (Str × D)} (h : S a = some (.ins C dx fs)) (b : Bool) : EqA C S (.bl b) (.ref a) false
  | sr {a dx : Addr} {fs : List (Str × D)} (h : S a = some (.ins C dx fs)) (s : Str) : EqA C S (.str s) (.ref a) false
  | rr {a dx b dy : Addr} {fs gs : List (Str × D)} (h : S a = some (.ins C dx fs)) (h2 : S b = some (.ins C dy gs)) : EqA C S (.ref a) (.ref b) (decide (a = b))
def oEqO (C : Addr) : DR2 := fun x y S k => ∃ b, EqA C S x y b ∧ k (.bl b) S
section
variable {S : Sto} {k : DK} {C : Addr} {x y : D} {b c : Bool} {s : Str} {i : Int} {a : Addr}
theorem x_eqO : oEqO C x y S k = st2 (oEqO C) x y S k ⟨⟩ := propext Iff.rfl
theorem x_ninA : oNinA x y S k = st2 oNinA x y S k ⟨⟩ := propext Iff.rfl
theorem x_catN {l m : List D} : oCatN (.list l) (.list m) S k = few (l.length + m.length) (fresh S (fun p => k (.ref p) (put S p (.lst (l ++ m)))) ⟨⟩) ⟨⟩ := propext Iff.rfl
theorem x_isBB : oIsBl (.bl c) (.bl b) S k = k (.bl (decide (c = b))) S := propext Iff.rfl
theorem x_isBN : oIsBl .non (.bl b) S k = k (.bl false) S := propext Iff.rfl
theorem x_isBI : oIsBl (.int i) (.bl b) S k = k (.bl false) S := propext Iff.rfl
theorem x_isBS : oIsBl (.str s) (.bl b) S k = k (.bl false) S := propext Iff.rfl
theorem x_isBR : oIsBl (.ref a) (.bl b) S k = k (.bl false) S := propext Iff.rfl
end
end DL

set_option Elab.async false
set_option linter.all false
set_option maxRecDepth 100000
/-! ### sorted(dict), its keys numbers, any number of them -/
namespace SD
open PySem PySem.Spec PyProof.Rows L2
/-- what is collected of a dict of numbers -/
theorem ints_got {vs : List (Key × Value)} {ks : List Int} {acc : Array Value} (hkeys : vs.map (·.1) = ks.map Sum.inl) (hal : acc.toList.length = ks.length) (hacc : ∀ (j : Nat) (v : Value), acc[j]? = some v → ∃ (k : Key) (x : Value), vs[j]? = some (k, x) ∧ keyIs k v = true) : IntsAre acc.toList ks := ints_each hal fun j v e => by
  obtain ⟨k, x, e1, e2⟩ := hacc j v (by rw [← Array.getElem?_toList]; exact e)
  have e3 : (ks.map Sum.inl)[j]? = some k := by rw [← hkeys, List.getElem?_map, e1]; rfl
  rw [List.getElem?_map] at e3
  obtain ⟨y, e4, e5⟩ := Option.map_eq_some_iff.mp e3
  subst e5
  rcases keyIs_shape e2 with ⟨i, t, ek, ev⟩ | ⟨z, t, ek, ev⟩
  · cases ek
    exact ⟨y, t, e4, ev⟩
  · cases ek
variable {X : Cx}
def rSortDL : List V → Hp → VK → Prop := fun xs H Q => ∃ (a : Addr) (kvs : List (Key × V)) (ks : List Int), xs = [.ref a] ∧ Rd H a (.dK kvs) ∧ kvs.map (·.1) = ks.map Sum.inl ∧ ks.length ≤ 100000 ∧
    ∀ (ys : List Int) (p : Addr), ys.Perm ks → ys.Pairwise (· ≤ ·) → H p = none → Q (.ref p) (upd H p (.lst (ys.map V.int)))
theorem call_sortedDL (hcalm : X.calm = true) : CallR X (.builtin "sorted") rSortDL := by
  intro pins s σ H xs us Q I r ⟨a, kvs, ks, ex, hd, hks, hz, q⟩
  subst ex
  obtain ⟨u, eu, rx⟩ := vals1 r
  subst eu
  cases rx
  obtain ⟨z, lo, vs, rel, dd⟩ := dk_rd I.hok hd
  obtain ⟨ep, hat⟩ := dd.dictAt
  have hkeys : vs.map (·.1) = ks.map Sum.inl := rel.keys.symm.trans hks
  have hl : vs.length = ks.length := by simpa using congrArg List.length hkeys
  have hsz : ks.length ≤ sizeLine := by rw [sizeLine_eq]; omega
  refine Calls.call_function_entry kind_sorted plain_sorted entry_sorted (args_sorted1 _) ?_
  unfold Builtin.«sorted»
  refine wpAny_bind (m := checkCount "sorted" 1 1 _) (wpAny_pure ?_)
  refine wpAny_bind (PySem.W.kdu_collect (A := X.A.in1) (PySem.W.kdl_dict (knd := mixKind X.prog X.w) (kvs := vs) (ep := ep) lo) (I.ok.hd hcalm) hat (by rw [hl]; exact hsz) fun h' tk acc hk hacc => ?_)
  have hal : acc.toList.length = ks.length := by rw [Array.length_toList, hacc.1, hl]
  have hS : IntsAre acc.toList ks := ints_got hkeys hal hacc.2
  have I1 : Inv X pins σ H { s with heap := h', toks := tk } := I.kept hk
  refine wpAny_bind (wpAny_newList ?_ (by rw [hal]; exact hsz))
  have hoL : (h'.push (seqObj "list" acc.toList.toArray 0)).get? h'.objs.size = some (seqObj "list" acc.toList.toArray 0) := Heap.get?_push_size _ rfl
  show wpAny _ _ _ _ _ { s with heap := h'.push (seqObj "list" acc.toList.toArray 0), toks := tk }
  refine wpAny_bind (wpAny_holding (wpAny_call_entry slot_list_sort ⟨_, hoL, rfl⟩ entry_list_sort
    (SrtO.list_sort_ord (s := { s with heap := h'.push (seqObj "list" acc.toList.toArray 0), toks := tk }) SrtO.swo_int hoL (by rw [hal]; exact hsz) (fun h2 => SrtO.ints_sortable hS h2) fun out g1 g2 => ⟨_, rfl, ?_⟩) (args_list_sort _)))
  obtain ⟨k1, k2, k3⟩ := SrtO.ints_out hS g1 g2
  obtain ⟨e', he'⟩ := sortedHeap_at (vs := acc.toList) (out := out.toArray) hoL
  have hlen : ((out.map SrtO.iv).map V.int).length ≤ sizeLine := by
    rw [List.length_map, k2.length_eq]
    exact hsz
  refine wpAny_pure ⟨_, rfl, .ref h'.objs.size, upd H h'.objs.size (.lst ((out.map SrtO.iv).map V.int)), I1.laid (t' := tk) (fun b u e => ?_) (Nat.le_refl _)
    (show ObjOk X.prog X.w _ _ _ (.lst ((out.map SrtO.iv).map V.int)) from ⟨hlen, out, e', vals_of_ints k1, he'⟩), rfl, q _ _ k2 k3 (I1.hok.fresh (Nat.le_refl _))⟩
  have hb : b < h'.objs.size := Heap.lt_size e
  rw [sortedHeap_old (Nat.ne_of_lt hb) (by rw [size_push']; exact Nat.lt_succ_of_lt hb)]
  exact Heap.get?_push_of_some _ e
end SD
namespace DL
open PySem L2 Evl EX
section
variable {K : PySem.W.Frag}
def oSortDL : List D → Sto → DK → Prop := fun xs S k => match xs with
  | [.ref a] => ∃ (kvs : List (Key × D)) (ks : List Int), S a = some (.dct kvs) ∧ kvs.map (·.1) = ks.map Sum.inl ∧ ks.length ≤ 100000 ∧ ∀ ys : List Int, ys.Perm ks → ys.Pairwise (· ≤ ·) → k (.list (ys.map D.int)) S
  | _ => False
theorem si_sortDL : SimC K SD.rSortDL oSortDL := fun B S H vs xs k Q r rx h1 q => by
  unfold oSortDL at h1
  split at h1
  · obtain ⟨v, rfl, rv⟩ := rdl1 rx
    cases rd_ref rv
    obtain ⟨kvs, ks, hs, hk, hl, h1⟩ := h1
    obtain ⟨gs, hg, rg⟩ := r.dct hs
    refine ⟨_, gs, ks, rfl, .inl hg, by rw [rdkv_keys rg]; exact hk, hl, fun ys p pm pw hp => ?_⟩
    have n := r.new (o := .lst (ys.map V.int)) hp
    exact q _ S _ _ _ (h1 ys pm pw) n.2 n.1 (.lst upd_same (rdl_ints _))
  · exact h1.elim
end
theorem x_sortDL {S : Sto} {k : DK} {xs : List D} : oSortDL xs S k = stC oSortDL xs S k ⟨⟩ := propext Iff.rfl
end DL

set_option Elab.async false
set_option linter.all false
set_option maxRecDepth 100000
/-! ### xs[i] = v for a list that changes; comprehensions that change the store -/
namespace DL
open PySem L2 Evl EX
def setq (o i v : D) (S : Sto) (k : Sto → Prop) (_ : Tag k) : Prop := ∃ p ds n j, o = .ref p ∧ i = .int n ∧ S p = some (.lst ds) ∧ ixN ds.length n = some j ∧ k (put S p (.lst (ds.set j v)))
def gSubD (dO dI : DE) : DG := fun x δ S k => dO δ S fun o S1 => dI δ S1 fun i S2 => setq o i x S2 (fun S3 => k δ S3) ⟨⟩
section
variable {X : Cx} {K : PySem.W.Frag} {o i : Expr} {dO dI : DE} {pos : Pos}
theorem dg_sub (ho : PE X o (lE K dO)) (hi : PE X i (lE K dI))
    (ha : ∀ v, assign (.Subscript o i pos) X.env v = (do
      let ov ← holding [v] (eval o X.env)
      let iv ← holding [v, ov] (eval i X.env)
      standAt pos
      holding [v, ov, iv] (setItem ov iv v)
      release [v, ov, iv] []) := by intro _; rfl) : PG X (.Subscript o i pos) (lG K (gSubD dO dI)) :=
  pgOf (pg_sub ho hi set_list ha) fun v σ H Q ⟨B, δ, S, x, k, s, r, rx, h, q⟩ => ⟨B, δ, S, _, s, r, h, fun y S1 w B1 H1 h1 e1 r1 d1 => ⟨B1, δ, S1, _, s.mono e1, r1, h1, fun z S2 u B2 H2 h2 e2 r2 d2 => by
    obtain ⟨p, ds, n, j, rfl, rfl, hp, hj, h2⟩ := h2
    obtain ⟨xs, hx, rl⟩ := r2.lst hp
    cases rd_ref d1
    cases rd_int d2
    exact ⟨p, xs, n, j, rfl, rfl, hx, by rw [rl.length]; exact hj, q δ _ σ B2 _ h2 (e1.trans e2) (s.mono (e1.trans e2)) (r2.mut hp (.lst (RdL.set (rx.mono (e1.trans e2)) j rl)))⟩⟩⟩
end
section
variable {δ : Dst} {S : Sto} {k : DK} {dO dI : DE} {p : Addr} {ds : List D} {v x : D}
theorem x_gSub {kg : Dst → Sto → Prop} : gSubD dO dI x δ S kg = dO δ S fun o S1 => dI δ S1 fun i S2 => setq o i x S2 (fun S3 => kg δ S3) ⟨⟩ := propext Iff.rfl
theorem setOf {k : Sto → Prop} {n : Int} {j : Nat} (h : S p = some (.lst ds)) (hj : ixN ds.length n = some j) (q : k (put S p (.lst (ds.set j v)))) : setq (.ref p) (.int n) v S k ⟨⟩ := ⟨p, ds, n, j, rfl, rfl, h, hj, q⟩
/-- a comprehension whose elements change the store: I, the store without the list that grows -/
theorem lcOfS {gc : DGc} {t : DT} {de : DE} {vs : List Nat} (I : Nat → List D → Sto → Prop) (hl : ds.length < 100000) (h0 : I 0 [] S)
    (hs : ∀ p, S p = none → ∀ n d acc S', ds[n]? = some d → S' p = none → I n acc S' → gc d (wipeD δ vs) fun δ2 => t δ2 (put S' p (.lst acc)) fun b S2 => branch b (de δ2 S2 (fun y S3 => ∃ S4, S4 p = none ∧ S3 = put S4 p (.lst acc) ∧ I (n + 1) (acc ++ [y]) S4)) (∃ S4, S4 p = none ∧ S2 = put S4 p (.lst acc) ∧ I (n + 1) acc S4) ⟨⟩)
    (hd : ∀ acc S', I ds.length acc S' → k (.list acc) S') : lcC ds gc t de vs δ S k ⟨⟩ :=
  ⟨hl, fun p hp => ⟨I, h0, fun n d acc S' hd' hp' hI => hs p hp n d acc S' hd' hp' hI, fun acc S' _ hI => hd acc S' hI⟩⟩
end
end DL

set_option Elab.async false
set_option linter.all false
set_option maxRecDepth 100000
/-! ### dict(pairs) -/
namespace DL
open PySem L2 Evl EX
def gmerge (kvs : List (Key × D)) (l : List (Key × D)) : List (Key × D) := l.foldl (fun a kv => gput a kv.1 kv.2) kvs
/-- dict([(k, v), ..]) -/
def oDictP : List D → Sto → DK → Prop := fun xs S k => match xs with
  | [.list ds] => ∃ kvs : List (Key × D), ds = kvs.map (fun kv => .tup [dK kv.1, kv.2]) ∧ ∀ p, S p = none → k (.ref p) (put S p (.dct (gmerge [] kvs)))
  | _ => False
section
variable {K : PySem.W.Frag} {B : Hp}
end
theorem x_dictP {S : Sto} {k : DK} {xs : List D} : oDictP xs S k = stC oDictP xs S k ⟨⟩ := propext Iff.rfl
end DL

set_option Elab.async false
set_option linter.all false
set_option maxRecDepth 100000
/-! ### loops over what stands in the store: a list that stays as it is meanwhile, a dict's keys (locked) -/
namespace DL
open PySem L2 Evl EX
/-- what is walked, and what must hold of the store for it to go on -/
abbrev DIS := Dst → Sto → (List D → (Sto → Prop) → Sto → Prop) → Prop
structure ItOkS (K : PySem.W.Frag) (B : Hp) (J : It) (ds : List D) (Φ : Sto → Prop) : Prop where
  go : ∀ i B1 S H, Ex B B1 → R K B1 S H → Φ S → i < ds.length → J.go i H
  stop : ∀ i B1 S H, Ex B B1 → R K B1 S H → Φ S → ds.length ≤ i → J.stop i H
  yld : ∀ i H x H' B1 S, Ex B B1 → R K B1 S H → Φ S → i < ds.length → J.yld i H x H' → ∃ d B2, ds[i]? = some d ∧ Ex B1 B2 ∧ R K B2 S H' ∧ RdD K B2 x d
def lIS (K : PySem.W.Frag) (di : DIS) : TI := fun σ H Rr => ∃ B δ S k, Sl K B σ δ ∧ R K B S H ∧ di δ S k ∧ ∀ ds Φ S' B' H' J, k ds Φ S' → Ex B B' → R K B' S' H' → ItOkS K B' J ds Φ → Rr J H'
def dForS (di : DIS) (g : DG) (b : DS) : DS := fun D δ S => di δ S fun ds Φ S1 => ∃ I : Nat → Dst → Sto → Prop, I 0 δ S1 ∧ Φ S1 ∧
  (∀ n d δ' S', ds[n]? = some d → Φ S' → I n δ' S' → g d δ' S' fun δ2 S2 => b { D with nx := fun δ3 S3 => Φ S3 ∧ I (n + 1) δ3 S3, ct := fun δ3 S3 => Φ S3 ∧ I (n + 1) δ3 S3, bk := D.nx } δ2 S2) ∧ ∀ δ' S', Φ S' → I ds.length δ' S' → D.nx δ' S'
section
variable {X : Cx} {K : PySem.W.Frag} {W : WXD} {d : DS} {pos : Pos}
theorem ds_forS {iter tg : Expr} {body : List Stmt} {di : DIS} {g : DG} (hp : PassesOwn (model X.prog X.w) X.A X.env X.xe) (hc : X.calm = true) (hi : PI X tg iter (lIS K di)) (hg : PG X tg (lG K g)) (hb : PSs X body (lS K W d)) (hs : ∀ x, foldedSetIterable iter X.env x = pure x := by intro _; rfl)
    : PS X (.For tg iter body [] pos) (lS K W (dForS di g d)) := psOf (ps_for hp hc hi hg hb hs) fun E σ H ⟨B, δ, S, D, s, r, h, l⟩ =>
  ⟨B, δ, S, _, s, r, h, fun ds Φ S1 B1 H1 J ⟨I, h0, p0, hs, hd⟩ e1 r1 it => by
    refine ⟨fun i m σ' H' => m = ds.length - i ∧ i ≤ ds.length ∧ ∃ B2 δ2 S2, Ex B1 B2 ∧ Sl K B2 σ' δ2 ∧ R K B2 S2 H' ∧ Φ S2 ∧ I i δ2 S2, ⟨ds.length, rfl, Nat.zero_le _, B1, δ, S1, Ex.refl B1, s.mono e1, r1, p0, h0⟩, ?_⟩
    rintro i m σ' H' ⟨rfl, hi, B2, δ2, S2, e2, s2, r2, p2, hI⟩
    by_cases hlt : i < ds.length
    · refine .inr ⟨it.go i B2 S2 H' e2 r2 p2 hlt, fun σ3 H3 => ∃ B3 δ3 S3, Ex B1 B3 ∧ Sl K B3 σ3 δ3 ∧ R K B3 S3 H3 ∧ Φ S3 ∧ I (i + 1) δ3 S3, fun σ3 H3 hn => ⟨ds.length - (i + 1), by omega, rfl, by omega, hn⟩, fun x H3 hy => ?_⟩
      obtain ⟨d', B3, hd', e3, r3, rd⟩ := it.yld i H' x H3 B2 S2 e2 r2 p2 hlt hy
      refine ⟨B3, δ2, S2, d', _, s2.mono e3, r3, rd, hs i d' δ2 S2 hd' p2 hI, fun δ4 S4 σ4 B4 H4 h4 e4 s4 r4 => ⟨B4, δ4, S4, _, s4, r4, h4, ?_⟩⟩
      have e14 : Ex B1 B4 := e2.trans (e3.trans e4)
      exact ⟨fun δ5 S5 σ5 B5 H5 h5 e5 s5 r5 => ⟨B5, δ5, S5, e14.trans e5, s5, r5, h5⟩, fun x S v B' H' hk e' => l.rt x S v B' H' hk (e1.trans (e14.trans e')), fun δ5 S5 σ5 B5 H5 h5 e5 s5 r5 => l.nx δ5 S5 σ5 B5 H5 h5 (e1.trans (e14.trans e5)) s5 r5,
        fun δ5 S5 σ5 B5 H5 h5 e5 s5 r5 => ⟨B5, δ5, S5, e14.trans e5, s5, r5, h5⟩, fun c od δ5 S5 σ5 B5 H5 h5 e5 => l.xx c od δ5 S5 σ5 B5 H5 h5 (e1.trans (e14.trans e5))⟩
    · have ei : i = ds.length := by omega
      subst ei
      exact .inl ⟨it.stop _ B2 S2 H' e2 r2 p2 (Nat.le_refl _), l.nx δ2 S2 σ' B2 H' (hd δ2 S2 p2 hI) (e1.trans e2) s2 r2⟩⟩
/-- a list of the store -/
def diSL (de : DE) : DIS := fun δ S k => de δ S fun x S1 => ∃ p ds, x = .ref p ∧ S1 p = some (.lst ds) ∧ k ds (fun S' => S' p = some (.lst ds)) S1
theorem di_stl {tg l : Expr} {de : DE} (h : PE X l (lE K de)) (hk : X.K = K := by rfl) : PI X tg l (lIS K (diSL de)) := piOf (piL h hk) fun σ H Q ⟨B, δ, S, k, s, r, h, q⟩ =>
  ⟨B, δ, S, _, s, r, h, fun x S1 v B1 H1 ⟨p, ds, hx, hp, h1⟩ e1 r1 d1 => by
    subst hx
    cases rd_ref d1
    obtain ⟨xs, hx, rl⟩ := r1.lst hp
    refine ⟨p, rfl, ⟨xs, sq_of hx⟩, q _ _ S1 B1 H1 _ h1 e1 r1 ⟨fun i B2 S H e r2 hS hi => ?_, fun i B2 S H e r2 hS hi => ?_, fun i H x H' B2 S e r2 hS hi hy => ?_⟩⟩
    · obtain ⟨ys, hy, ry⟩ := r2.lst hS
      have : i < ys.length := by rw [ry.length]; exact hi
      exact ⟨ys, ys[i], sq_of hy, List.getElem?_eq_getElem this⟩
    · obtain ⟨ys, hy, ry⟩ := r2.lst hS
      exact ⟨ys, sq_of hy, by rw [ry.length]; exact hi⟩
    · obtain ⟨rfl, hy⟩ := hy
      obtain ⟨ys, hz, ry⟩ := r2.lst hS
      obtain ⟨d, hd, rd⟩ := ry.getV (hy ys (sq_of hz))
      exact ⟨d, B2, hd, Ex.refl B2, r2, rd⟩⟩
/-- a dict's keys -/
def diKeys (de : DE) : DIS := fun δ S k => de δ S fun x S1 => ∃ p od xs kvs, x = .ref p ∧ S1 p = some (.lck od xs kvs) ∧ k (kvs.map fun kv => dK kv.1) (fun S' => S' p = some (.lck od xs kvs)) S1
theorem di_keys {tg l : Expr} {de : DE} (h : PE X l (lE K de)) : PI X tg l (lIS K (diKeys de)) := piOf (pi_keys h) fun σ H Q ⟨B, δ, S, k, s, r, h, q⟩ =>
  ⟨B, δ, S, _, s, r, h, fun x S1 v B1 H1 ⟨p, od, xs, kvs, hx, hp, h1⟩ e1 r1 d1 => by
    subst hx
    cases rd_ref d1
    obtain ⟨hx, rl⟩ := r1.lck hp
    have hlen : xs.length = kvs.length := rdkv_len rl
    refine ⟨p, od, rfl, .inl ⟨xs, hx, q _ _ S1 B1 H1 _ h1 e1 r1 ⟨fun i B2 S H e r2 hS hi => ?_, fun i B2 S H e r2 hS hi => ?_, fun i H x H' B2 S e r2 hS hi hy => ?_⟩⟩⟩
    · obtain ⟨hy, ry⟩ := r2.lck hS
      exact ⟨hy, by rw [List.length_map] at hi; omega⟩
    · obtain ⟨hy, ry⟩ := r2.lck hS
      exact ⟨hy, by rw [List.length_map] at hi; omega⟩
    · obtain ⟨rfl, k, v, hkv, rfl⟩ := hy
      have hk := rdkv_keys rl
      refine ⟨dK k, B2, ?_, Ex.refl B2, r2, rd_kV k⟩
      have e2 : (kvs.map fun kv => dK kv.1) = (kvs.map (·.1)).map dK := by rw [List.map_map]; rfl
      rw [e2, ← hk, List.map_map, List.getElem?_map, hkv]
      rfl⟩
/-- a statement while a dict is locked -/
def dLock (d : DS) : DS := fun E δ S => ∃ a kvs, S a = some (.dct kvs) ∧ ∀ od xs, d ⟨fun δ' S' => S' a = some (.lck od xs kvs) ∧ E.nx δ' (put S' a (.dct kvs)), fun v S' => S' a = some (.lck od xs kvs) ∧ E.rt v (put S' a (.dct kvs)),
  fun δ' S' => S' a = some (.lck od xs kvs) ∧ E.bk δ' (put S' a (.dct kvs)), fun δ' S' => S' a = some (.lck od xs kvs) ∧ E.ct δ' (put S' a (.dct kvs)), fun _ _ _ _ => False⟩ δ (put S a (.lck od xs kvs))
theorem ds_lock {st : Stmt} (h : PS X st (lS K W d)) : PS X st (lS K W (dLock d)) := psOf (ps_lock h) fun E σ H ⟨B, δ, S, D, s, r, ⟨a, kvs, ha, h⟩, l⟩ => by
  obtain ⟨xs, hx, rl⟩ := r.dct ha
  refine ⟨a, .dK xs, hx, trivial, fun od => ⟨B, δ, _, _, s, r.mut ha (.lck (od := od) rl), h od xs, ?_⟩⟩
  have back : ∀ {B' : Hp} {S' : Sto} {H' : Hp}, R K B' S' H' → S' a = some (.lck od xs kvs) → H' a = some (.frz od (.dK xs)) ∧ R K B' (put S' a (.dct kvs)) (upd H' a (.dK xs)) := fun r' h' => ⟨(r'.lck h').1, r'.mut h' (.dct (r'.lck h').2)⟩
  exact ⟨fun δ' S' σ' B' H' ⟨h1, h2⟩ e' s' r' => ⟨(back r' h1).1, l.nx δ' _ σ' B' _ h2 e' s' (back r' h1).2⟩,
    fun x S' v B' H' ⟨h1, h2⟩ e' r' rd' => ⟨(back r' h1).1, l.rt x _ v B' _ h2 e' (back r' h1).2 rd'⟩,
    fun δ' S' σ' B' H' ⟨h1, h2⟩ e' s' r' => ⟨(back r' h1).1, l.bk δ' _ σ' B' _ h2 e' s' (back r' h1).2⟩,
    fun δ' S' σ' B' H' ⟨h1, h2⟩ e' s' r' => ⟨(back r' h1).1, l.ct δ' _ σ' B' _ h2 e' s' (back r' h1).2⟩, fun _ _ _ _ _ _ _ z => z.elim⟩
end
/-! stepping -/
def forSC (ds : List D) (Φ : Sto → Prop) (g : DG) (b : DS) (E : DEnds) (δ : Dst) (S : Sto) (_ : Tag (E, g, b)) : Prop := ∃ I : Nat → Dst → Sto → Prop, I 0 δ S ∧ Φ S ∧
  (∀ n d δ' S', ds[n]? = some d → Φ S' → I n δ' S' → g d δ' S' fun δ2 S2 => b { E with nx := fun δ3 S3 => Φ S3 ∧ I (n + 1) δ3 S3, ct := fun δ3 S3 => Φ S3 ∧ I (n + 1) δ3 S3, bk := E.nx } δ2 S2) ∧ ∀ δ' S', Φ S' → I ds.length δ' S' → E.nx δ' S'
def slq (x : D) (S : Sto) (k : List D → (Sto → Prop) → Sto → Prop) (_ : Tag k) : Prop := ∃ p ds, x = .ref p ∧ S p = some (.lst ds) ∧ k ds (fun S' => S' p = some (.lst ds)) S
def skq (x : D) (S : Sto) (k : List D → (Sto → Prop) → Sto → Prop) (_ : Tag k) : Prop := ∃ p od xs kvs, x = .ref p ∧ S p = some (.lck od xs kvs) ∧ k (kvs.map fun kv => dK kv.1) (fun S' => S' p = some (.lck od xs kvs)) S
def lockq (d : DS) (E : DEnds) (δ : Dst) (S : Sto) (_ : Tag (d, E)) : Prop := dLock d E δ S
section
variable {δ : Dst} {S : Sto} {E : DEnds} {de : DE} {d b : DS} {g : DG} {di : DIS} {ds : List D} {Φ : Sto → Prop} {a p : Addr} {kvs : List (Key × D)} {ka : List D → (Sto → Prop) → Sto → Prop}
theorem x_forS : dForS di g b E δ S = di δ S fun ds Φ S1 => forSC ds Φ g b E δ S1 ⟨⟩ := propext Iff.rfl
theorem x_diSL : diSL de δ S ka = de δ S fun x S1 => slq x S1 ka ⟨⟩ := propext Iff.rfl
theorem x_diKeys : diKeys de δ S ka = de δ S fun x S1 => skq x S1 ka ⟨⟩ := propext Iff.rfl
theorem x_lock : dLock d E δ S = lockq d E δ S ⟨⟩ := propext Iff.rfl
theorem slOf (h : S p = some (.lst ds)) (q : ka ds (fun S' => S' p = some (.lst ds)) S) : slq (.ref p) S ka ⟨⟩ := ⟨p, ds, rfl, h, q⟩
theorem skOf {od : Obj} {xs : List (Key × V)} (h : S p = some (.lck od xs kvs)) (q : ka (kvs.map fun kv => dK kv.1) (fun S' => S' p = some (.lck od xs kvs)) S) : skq (.ref p) S ka ⟨⟩ := ⟨p, od, xs, kvs, rfl, h, q⟩
theorem forSOf (I : Nat → Dst → Sto → Prop) (h0 : I 0 δ S) (p0 : Φ S) (hs : ∀ n d δ' S', ds[n]? = some d → Φ S' → I n δ' S' → g d δ' S' fun δ2 S2 => b { E with nx := fun δ3 S3 => Φ S3 ∧ I (n + 1) δ3 S3, ct := fun δ3 S3 => Φ S3 ∧ I (n + 1) δ3 S3, bk := E.nx } δ2 S2)
    (hd : ∀ δ' S', Φ S' → I ds.length δ' S' → E.nx δ' S') : forSC ds Φ g b E δ S ⟨⟩ := ⟨I, h0, p0, hs, hd⟩
theorem lockOf (h : S a = some (.dct kvs)) (q : ∀ od xs, d ⟨fun δ' S' => S' a = some (.lck od xs kvs) ∧ E.nx δ' (put S' a (.dct kvs)), fun v S' => S' a = some (.lck od xs kvs) ∧ E.rt v (put S' a (.dct kvs)),
  fun δ' S' => S' a = some (.lck od xs kvs) ∧ E.bk δ' (put S' a (.dct kvs)), fun δ' S' => S' a = some (.lck od xs kvs) ∧ E.ct δ' (put S' a (.dct kvs)), fun _ _ _ _ => False⟩ δ (put S a (.lck od xs kvs))) : lockq d E δ S ⟨⟩ := ⟨a, kvs, h, q⟩
end
section
variable {S : Sto} {k : DK} {x y p : D}
end
/-! ### the store read otherwise -/
end DL

set_option Elab.async false
set_option linter.all false
set_option maxRecDepth 100000
/-! ### xs.count, xs.remove, xs.clear, {k: v}, dict(d), comprehensions over lists of the store and dicts, == of any data -/
namespace DL
open PySem L2 Evl EX
section
variable {K : PySem.W.Frag}
/-! dict(d) -/
def oDictD : List D → Sto → DK → Prop := fun xs S k => match xs with
  | [.ref a] => ∃ kvs, DctAt S a kvs ∧ ∀ p, S p = none → k (.ref p) (put S p (.dct kvs))
  | _ => False
/-! {k: v, ..} -/
def dPairs : List (DE × DE) → Dst → Sto → (List (D × D) → Sto → Prop) → Prop
  | [], _, S, k => k [] S
  | (dk, dv) :: r, δ, S, k => dk δ S fun x S1 => dv δ S1 fun y S2 => dPairs r δ S2 fun ps S3 => k ((x, y) :: ps) S3
def dDisp (trs : List (DE × DE)) : DE := fun δ S k => ∀ p, S p = none → dPairs trs δ (put S p (.dct [])) fun ps S2 => S2 p = some (.dct []) ∧ ∃ kvs : List (Key × D), ps = kvs.map (fun kv => (dK kv.1, kv.2)) ∧ kvs.length ≤ 15 ∧ k (.ref p) (put S2 p (.dct (gmerge [] kvs)))
/-! == of any data -/
def oEqA (neg : Bool) : DR2 := fun x y S k => (res S x).any = true ∧ (res S y).any = true ∧ min (res S x).deep (res S y).deep ≤ 64 ∧ k (.bl (if neg then !PyData.eqv (res S x).py (res S y).py else PyData.eqv (res S x).py (res S y).py)) S
theorem dpA_res {B H : Hp} {S : Sto} {v : V} {x : D} (r : R K B S H) (rx : RdD K B v x) (h : (res S x).any = true) : Dp K H v (res S x).py := by
  cases x with
  | ref a =>
    simp only [res] at h ⊢
    cases e : S a with
    | none => rw [e] at h; cases h
    | some o =>
      cases o with
      | lst ds =>
        rw [e] at h
        simp only [D.any] at h
        obtain ⟨xs, ha, rl⟩ := r.lst e
        cases rd_ref rx
        simp only [D.py]
        exact .lst (sq_of ha) (dpLA_of r.ex rl h)
      | _ => rw [e] at h; cases h
  | _ => exact dpA_of r.ex rx h
theorem si_eqA (neg : Bool) : Sim2 K (rEqM K neg) (oEqA neg) := fun B S H v w x y k Q r rx ry h1 q => by
  obtain ⟨hx, hy, hm, h1⟩ := h1
  exact ⟨_, _, dpA_res r rx hx, dpA_res r ry hy, pyA_lay _ hx, pyA_lay _ hy, by rw [pyA_deep _ hx, pyA_deep _ hy]; exact hm, q _ S _ B H h1 (Ex.refl B) r (.bl _)⟩
mutual
theorem eqv_refl : ∀ d : D, PyData.eqv d.py d.py = true
  | .non => by simp [D.py, PyData.eqv]
  | .bl b => by simp [D.py, PyData.eqv]
  | .int i => by simp [D.py, PyData.eqv]
  | .str x => by simp [D.py, PyData.eqv]
  | .list ds => by rw [D.py, PyData.eqv]; exact eqvL_refl ds
  | .tup ds => by rw [D.py, PyData.eqv]; exact eqvL_refl ds
  | .scr ds => by rw [D.py, PyData.eqv]; exact eqvL_refl ds
  | .ref _ => by simp [D.py, PyData.eqv]
  | .ty _ => by simp [D.py, PyData.eqv]
theorem eqvL_refl : ∀ ds : List D, PyData.eqvAll (pyL ds) (pyL ds) = true
  | [] => by simp [pyL, PyData.eqvAll]
  | d :: ds => by rw [pyL, PyData.eqvAll, eqv_refl d, eqvL_refl ds]; rfl
end
/-! comprehensions over what stands in the store -/
def dLcS (di : DIS) (g : DGc) (t : DT) (de : DE) (vs : List Nat) : DE := fun δ S k => di δ S fun ds Φ S1 => ds.length < 100000 ∧ ∀ p, S1 p = none → ∃ I : Nat → List D → Sto → Prop, I 0 [] S1 ∧ (∀ n acc S', S' p = none → I n acc S' → Φ (put S' p (.lst acc))) ∧
  (∀ n d acc S', ds[n]? = some d → S' p = none → I n acc S' → g d (wipeD δ vs) fun δ2 => t δ2 (put S' p (.lst acc)) fun b S2 => if b = true then de δ2 S2 (fun y S3 => ∃ S4, S4 p = none ∧ S3 = put S4 p (.lst acc) ∧ I (n + 1) (acc ++ [y]) S4) else ∃ S4, S4 p = none ∧ S2 = put S4 p (.lst acc) ∧ I (n + 1) acc S4) ∧
  ∀ acc S', S' p = none → I ds.length acc S' → k (.list acc) S'
end
section
variable {X : Cx} {K : PySem.W.Frag} {W : WXD}
theorem l_lcS {di : DIS} {g : TG} {gd : DGc} {t : DT} {de : DE} {vs : List Nat} (hg : GcOk K vs g gd) (σ : L2.St) (H : Hp) (Q : VK) : lE K (dLcS di gd t de vs) σ H Q → tLc (lIS K di) g (lT K t) (lE K de) vs σ H Q := fun ⟨B, δ, S, k, s, r, h, q⟩ =>
  ⟨B, δ, S, _, s, r, h, fun ds Φ S1 B1 H1 J ⟨hlen, hp⟩ e1 r1 it => fun Dl hD => by
    have fr := (r1.fresh hD).2
    obtain ⟨I, h0, hΦ, hs, hd⟩ := hp Dl fr
    refine ⟨fun i m H' => m = ds.length - i ∧ i ≤ ds.length ∧ ∃ B2 S2 acc, acc.length ≤ i ∧ S2 Dl = none ∧ Ex B1 B2 ∧ R K B2 (put S2 Dl (.lst acc)) H' ∧ I i acc S2, ⟨ds.length, rfl, Nat.zero_le _, B1, S1, [], Nat.le_refl _, fr, Ex.refl B1, r1.newS hD (.lst .nil), h0⟩, ?_⟩
    rintro i m H' ⟨rfl, hi, B2, S2, acc, hal, n2, e2, r2, hI⟩
    have ph := hΦ i acc S2 n2 hI
    by_cases hlt : i < ds.length
    · refine .inr ⟨it.go i B2 _ H' e2 r2 ph hlt, fun H3 => ∃ B3 S3 acc, acc.length ≤ i + 1 ∧ S3 Dl = none ∧ Ex B1 B3 ∧ R K B3 (put S3 Dl (.lst acc)) H3 ∧ I (i + 1) acc S3, fun H3 hn => ⟨ds.length - (i + 1), by omega, rfl, by omega, hn⟩, fun x H3 hy => ?_⟩
      obtain ⟨d, B3, hd', e3, r3, rd⟩ := it.yld i H' x H3 B2 _ e2 r2 ph hlt hy
      refine hg B3 H3 σ (wipeD δ vs) x d _ _ ((s.mono (e1.trans (e2.trans e3))).wipe vs) r3.ex rd (hs i d acc S2 hd' n2 hI) fun σ2 δ2 hk s2 hw => ⟨hw, ?_⟩
      refine ⟨B3, δ2, _, _, s2, r3, hk, fun b S4 B4 H4 h4 e4 r4 => ?_⟩
      have e14 : Ex B1 B4 := e2.trans (e3.trans e4)
      cases b with
      | false =>
        obtain ⟨S5, n5, rfl, hI5⟩ := h4
        exact ⟨B4, S5, acc, by omega, n5, e14, r4, hI5⟩
      | true =>
        refine ⟨B4, δ2, S4, _, s2.mono e4, r4, h4, fun y S5 v B5 H5 ⟨S6, n6, h6, hI6⟩ e5 r5 d5 => ?_⟩
        subst h6
        obtain ⟨xs, hx, rl⟩ := r5.lst put_same
        have r6 := r5.mut put_same (.lst (rl.append (.one d5)))
        rw [put_put] at r6
        exact ⟨xs, hx, sz_lt (by rw [rl.length]; omega), B5, S6, acc ++ [y], by simp; omega, n6, e14.trans e5, r6, hI6⟩
    · have ei : i = ds.length := by omega
      subst ei
      obtain ⟨B', e', r', rd⟩ := r2.freeze put_same
      rw [del_put n2] at r'
      exact .inl ⟨it.stop _ B2 _ H' e2 r2 ph (Nat.le_refl _), q _ _ _ B' H' (hd acc S2 n2 hI) (e1.trans (e2.trans e')) r' rd⟩⟩
theorem de_lcS {elt tg iter : Expr} {ifs : List Expr} {scope : Scope} {own : List (Str × Nat)} {pos : Pos} {di : DIS} {g : TG} {gd : DGc} {t : DT} {de : DE} (hgc : GcOk K (own.map (·.2)) g gd) (hc : X.calm = true) (hN : X.N.Nodup) (hi : PI X tg iter (lIS K di)) (ok : BlkOk X.N X.env.scope scope own)
    (hg : ∀ (s : Shared) (H : Hp) (C : Addr) (cl : List (Str × Addr)) (fp : List Addr), PG (X.blk s H scope (compEnvC scope cl C X.env) fp) tg g) (ht : ∀ (s : Shared) (H : Hp) (C : Addr) (cl : List (Str × Addr)) (fp : List Addr), PTs (X.blk s H scope (compEnvC scope cl C X.env) fp) ifs (lT K t))
    (he : ∀ (s : Shared) (H : Hp) (C : Addr) (cl : List (Str × Addr)) (fp : List Addr), PE (X.blk s H scope (compEnvC scope cl C X.env) fp) elt (lE K de)) (hs : ∀ x, foldedSetIterable iter X.env x = pure x := by intro _; rfl) :
    PE X (.ListComp elt [⟨tg, iter, ifs, 0⟩] scope pos) (lE K (dLcS di gd t de (own.map (·.2)))) := peOf (pe_lc hc hN hi ok hg ht he hs) (l_lcS hgc)
theorem ds_setLcS {i : Nat} {y : Str} {py : Pos} {elt tg iter : Expr} {ifs : List Expr} {scope : Scope} {own : List (Str × Nat)} {pos spos : Pos} {di : DIS} {g : TG} {gd : DGc} {t : DT} {de : DE} (hgc : GcOk K (own.map (·.2)) g gd) (hc : X.calm = true) (hN : X.N.Nodup) (hy : X.N[i]? = some y) (hyl : X.env.scope.names.lookup y = some .local)
    (hsw : swapsWith (.ListComp elt [⟨tg, iter, ifs, 0⟩] scope pos) (some (.Name y py)) spos.line X.env = pure true) (hi : PI X tg iter (lIS K di)) (ok : BlkOk X.N X.env.scope scope own)
    (hg : ∀ (s : Shared) (H : Hp) (C : Addr) (cl : List (Str × Addr)) (fp : List Addr), PG (X.blk s H scope (compEnvC scope cl C X.env) fp) tg g) (ht : ∀ (s : Shared) (H : Hp) (C : Addr) (cl : List (Str × Addr)) (fp : List Addr), PTs (X.blk s H scope (compEnvC scope cl C X.env) fp) ifs (lT K t))
    (he : ∀ (s : Shared) (H : Hp) (C : Addr) (cl : List (Str × Addr)) (fp : List Addr), PE (X.blk s H scope (compEnvC scope cl C X.env) fp) elt (lE K de)) (hs : ∀ x, foldedSetIterable iter X.env x = pure x := by intro _; rfl) :
    PS X (.Assign [.Name y py] (.ListComp elt [⟨tg, iter, ifs, 0⟩] scope pos) spos) (lS K W (dSet (dLcS di gd t de (own.map (·.2))) i)) := psOf (ps_setLc hc hN hy hyl hsw hi ok hg ht he hs) fun E σ H ⟨B, δ, S, D, s, r, h, l⟩ =>
  l_lcS hgc σ H _ ⟨B, δ, S, _, s, r, h, fun x S1 v B1 H1 h1 e1 r1 d1 => l.nx _ S1 _ B1 H1 h1 e1 ((s.mono e1).set d1 i) r1⟩
/-- an expression while a dict is locked -/
def dLockE (d : DE) : DE := fun δ S k => ∃ a kvs, S a = some (.dct kvs) ∧ ∀ od xs, d δ (put S a (.lck od xs kvs)) fun v S' => S' a = some (.lck od xs kvs) ∧ k v (put S' a (.dct kvs))
end
/-! stepping -/
def lcSC (ds : List D) (Φ : Sto → Prop) (g : DGc) (t : DT) (de : DE) (vs : List Nat) (δ : Dst) (S : Sto) (k : DK) (_ : Tag (k, g, t, de)) : Prop := ds.length < 100000 ∧ ∀ p, S p = none → ∃ I : Nat → List D → Sto → Prop, I 0 [] S ∧ (∀ n acc S', S' p = none → I n acc S' → Φ (put S' p (.lst acc))) ∧
  (∀ n d acc S', ds[n]? = some d → S' p = none → I n acc S' → g d (wipeD δ vs) fun δ2 => t δ2 (put S' p (.lst acc)) fun b S2 => if b = true then de δ2 S2 (fun y S3 => ∃ S4, S4 p = none ∧ S3 = put S4 p (.lst acc) ∧ I (n + 1) (acc ++ [y]) S4) else ∃ S4, S4 p = none ∧ S2 = put S4 p (.lst acc) ∧ I (n + 1) acc S4) ∧
  ∀ acc S', S' p = none → I ds.length acc S' → k (.list acc) S'
def lockEq (d : DE) (δ : Dst) (S : Sto) (k : DK) (_ : Tag (d, k)) : Prop := dLockE d δ S k
section
variable {δ : Dst} {S : Sto} {k : DK} {de : DE} {gc : DGc} {t : DT} {di : DIS} {ds : List D} {Φ : Sto → Prop} {a p : Addr} {vs : List Nat} {x y : D} {xs : List D} {kvs : List (Key × D)} {trs : List (DE × DE)} {kp : List (D × D) → Sto → Prop}
theorem x_lcS : dLcS di gc t de vs δ S k = di δ S fun ds Φ S1 => lcSC ds Φ gc t de vs δ S1 k ⟨⟩ := propext Iff.rfl
theorem x_lockE : dLockE de δ S k = lockEq de δ S k ⟨⟩ := propext Iff.rfl
theorem x_eqA {neg : Bool} : oEqA neg x y S k = st2 (oEqA neg) x y S k ⟨⟩ := propext Iff.rfl
theorem x_dictD : oDictD xs S k = stC oDictD xs S k ⟨⟩ := propext Iff.rfl
theorem x_disp : dDisp trs δ S k = fresh S (fun p => dPairs trs δ (put S p (.dct [])) fun ps S2 => need (S2 p = some (.dct [])) (∃ kvs : List (Key × D), ps = kvs.map (fun kv => (dK kv.1, kv.2)) ∧ kvs.length ≤ 15 ∧ k (.ref p) (put S2 p (.dct (gmerge [] kvs)))) ⟨⟩) ⟨⟩ := propext Iff.rfl
theorem x_pNil : dPairs [] δ S kp = kp [] S := propext Iff.rfl
theorem x_pCons {dk dv : DE} : dPairs ((dk, dv) :: trs) δ S kp = dk δ S fun x S1 => dv δ S1 fun y S2 => dPairs trs δ S2 fun ps S3 => kp ((x, y) :: ps) S3 := propext Iff.rfl
theorem pop0Of (h : S a = some (.lst (y :: ds))) (q : k y (put S a (.lst ds))) : stM oPop0 (.ref a) [.int 0] S k ⟨⟩ := ⟨ds, y, h, q⟩
/-- a comprehension over what stands in the store, the store staying as it is -/
theorem lcSOf (P : Nat → List D → Prop) (hl : ds.length < 100000) (hΦ : ∀ p acc, S p = none → Φ (put S p (.lst acc))) (h0 : P 0 [])
    (hs : ∀ p, S p = none → ∀ n d acc, ds[n]? = some d → P n acc → gc d (wipeD δ vs) fun δ2 => t δ2 (put S p (.lst acc)) fun b S2 => branch b (de δ2 S2 (fun y S3 => LcO S p acc (P (n + 1) (acc ++ [y])) S3)) (LcO S p acc (P (n + 1) acc) S2) ⟨⟩) (hd : ∀ acc, P ds.length acc → k (.list acc) S) :
    lcSC ds Φ gc t de vs δ S k ⟨⟩ := by
  refine ⟨hl, fun p hp => ⟨fun n acc S' => S' = S ∧ P n acc, ⟨rfl, h0⟩, ?_, ?_, ?_⟩⟩
  · rintro n acc S' _ ⟨rfl, _⟩
    exact hΦ p acc hp
  · rintro n d acc S' hd' _ ⟨rfl, hP⟩
    exact hs p hp n d acc hd' hP
  · rintro acc S' _ ⟨rfl, hP⟩
    exact hd acc hP
theorem neASame (hx : res S x = p') (hy : res S y = p') (h1 : p'.any = true) (h3 : p'.deep ≤ 64) (h : k (.bl false) S) : st2 (oEqA true) x y S k ⟨⟩ := by
  subst hx
  refine ⟨h1, by rw [hy]; exact h1, by rw [hy, Nat.min_self]; exact h3, ?_⟩
  rw [hy, eqv_refl]
  exact h
end
end DL

set_option Elab.async false
set_option linter.all false
set_option maxRecDepth 100000
/-! ### xs.pop(i) -/
namespace DL
open PySem L2 Evl EX
theorem RdL.eraseIdx {K : PySem.W.Frag} {B : Hp} : ∀ {vs : List V} {ds : List D} (n : Nat), RdL K B vs ds → RdL K B (vs.eraseIdx n) (ds.eraseIdx n)
  | _, _, _, .nil => .nil
  | _, _, 0, .cons _ r => r
  | _, _, n + 1, .cons h r => .cons h (r.eraseIdx n)
section
variable {K : PySem.W.Frag}
end
/-! -x -/
def dNeg (de : DE) : DE := fun δ S k => de δ S fun x S1 => intq x (fun i => k (.int (-i)) S1) ⟨⟩
theorem de_neg {X : Cx} {K : PySem.W.Frag} {a : Expr} {de : DE} {pos : Pos} (h : PE X a (lE K de)) : PE X (.UnaryOp .USub a pos) (lE K (dNeg de)) := peOf (pe_un un_neg h) fun σ H Q ⟨B, δ, S, k, s, r, h, q⟩ =>
  ⟨B, δ, S, _, s, r, h, fun x S1 v B1 H1 h1 e1 r1 d1 => by
    unfold intq at h1
    split at h1
    · rename_i i
      cases rd_int d1
      exact ⟨i, rfl, q _ S1 _ B1 H1 h1 e1 r1 (.int _)⟩
    · exact h1.elim⟩
theorem x_neg {de : DE} {δ : Dst} {S : Sto} {k : DK} : dNeg de δ S k = de δ S fun x S1 => intq x (fun i => k (.int (-i)) S1) ⟨⟩ := propext Iff.rfl
end DL

set_option Elab.async false
set_option linter.all false
set_option maxRecDepth 100000
/-! ### data: exceptions -/
namespace DL
open PySem L2 Evl EX
/-! an exception made: C(v), its __init__ a def that asks the base's __init__ and then stores one field -/
/-- what the written part says of a class whose __init__ is ValueError's own -/
structure VeC (K : PySem.W.Frag) (CE : Addr) : Prop where
  ga : PySem.W.specialIn K (.ref CE) "__getattribute__" = some (some (.builtin "type.__getattribute__"))
  rd : PySem.W.readsIn K CE (.type "type") = true
  ty : PySem.W.typeIn K (.ref CE) = some (.type "type")
  fi : PySem.W.findCls K (.ref CE) (.type "type") "__init__" = some (.val (.builtin "ValueError.__init__"))
section
variable {X : Cx} {e : Expr} {es : List Expr} {ta : TA} {p1 p2 pos : Pos}
end
/-- __init__'s promise: one field is stored -/
def spXI (K : PySem.W.Frag) (C : Addr) (f : Str) : Sp := fun vs H Q _ => ∃ (a : Addr) (v : V), vs = [.ref a, v] ∧ OexC K C ∧ PySem.W.findIn K (.ref C) f = some none ∧ H a = some (exo a C none) ∧ ∀ dx, H dx = none → dx ≠ a → Q .non (upd (upd H dx (exd dx [(f, v)])) a (exo a C (some dx)))
/-- all that raise C(v) wants -/
structure MkX (P : Program) (w : World) (K : PySem.W.Frag) (mg : Str → Option Value) (base : Heap) (k : Nat) (x : Str) (C : Addr) (f : Str) : Prop where
  ex : ∃ (fI : Addr) (fd : FuncData) (ps : List Str), OexC K C ∧ PySem.W.findIn K (.ref C) "__init__" = some (some (.ref fI)) ∧ PySem.W.typeIn K (.ref fI) = some (.type "function") ∧ FnOk P w K mg base CX0 k fI fd ps (spXI K C f) ∧ Binds K fd ps [] ∧ mg x = some (.ref C) ∧ PySem.W.findIn K (.ref C) f = some none
/-! readings that may raise -/
abbrev DEX := Dst → Sto → DK → XDK → Prop
/-- a def that may raise -/
structure DefX (P : Program) (w : World) (K : PySem.W.Frag) (mg : Str → Option Value) (base : Heap) (k : Nat) (x : Str) (ps : List Str) (sp : SpD) : Prop where
  ex : ∃ (f : Addr) (fd : FuncData), FnOk P w K mg base (L2.CX P w) k f fd ps (lSp K sp) ∧ mg x = some (.ref f) ∧ PySem.W.keepIn K (.ref f) = true ∧ Binds K fd ps []
section
variable {X : Cx} {K : PySem.W.Frag} {W : WXD} {e a b : Expr} {es : List Expr} {da : DA} {pos p : Pos}
/-! statements -/
variable {st : Stmt} {d d2 : DS} {pos' : Pos}
/-! try -/
end
/-! what is caught -/
/-- isinstance(e, ..) of exceptions of C -/
structure XcC (K : PySem.W.Frag) (C : Addr) : Prop where
  cl : (PySem.W.clsIn K C).isSome = true
  ga : PySem.W.findIn K (.ref C) "__getattribute__" = some (some (.builtin "BaseException.__getattribute__"))
  gt : PySem.W.findIn K (.ref C) "__getattr__" = some none
  su : PySem.W.subIn K (.ref C) (.type "BaseException") = some true
  ha : PySem.W.findIn K (.ref C) "__class__" = some (some (.builtin "object.__class__"))
  hn : PySem.W.specialIn K (.builtin "object.__class__") "__get__" = some (some (.builtin "getset_descriptor.__get__"))
  tk : PySem.W.takesIn K (.builtin "object.__class__") = some true
  hm : PySem.W.mroIn K C (.type "object") = some true
  hd : PySem.W.hasDictIn K C = true
section
variable {X : Cx} {K : PySem.W.Frag} {W : WXD} {a : Addr} {cls : Value} {d : Option Addr} {oe : Obj} {pn : List (Addr × Obj)}
end
/-! a def that may raise -/
section
variable {P : Program} {w : World} {K : PySem.W.Frag} {mg : Str → Option Value} {base : Heap}
end
end DL

set_option Elab.async false
set_option linter.all false
set_option maxRecDepth 100000
set_option maxHeartbeats 1000000
/-! ### list.extend(tuple), dict.update(pairs), for .. in reversed(..), range(a, b, -1), sorted(dict of texts) -/
namespace DL
open PySem PySem.Spec PyProof.Rows L2 Evl EX
section
variable {K : PySem.W.Frag}
end
/-! d.update([(k, v), ..]) -/
/-! for x in reversed(l), l a list or a tuple -/
section
variable {X : Cx} {K : PySem.W.Frag} {tg e : Expr} {de : DE} {p pos : Pos}
/-! range(a, b, -1) -/
/-! sorted(dict), its keys texts -/
end
/-! stepping -/
section
variable {δ : Dst} {S : Sto} {k : DK} {kl : List D → Sto → Prop} {E : DEnds} {d e : DS} {de : DE} {dx : DEX} {da : DA} {xs ds : List D} {x : D} {i : Nat} {kx : XDK}
/-! exceptions -/
end
/-! comprehensions that map and filter -/
section
variable {δ : Dst} {S : Sto} {k : DK} {ds : List D} {gc : DGc} {t : DT} {de : DE} {vs : List Nat}
end
/-! a comprehension whose list will change -/
def dLcN (di : DI) (g : DGc) (t : DT) (de : DE) (vs : List Nat) : DE := fun δ S k => di δ S fun ds S1 => ds.length < 100000 ∧ ∀ p, S1 p = none → ∃ I : Nat → List D → Sto → Prop, I 0 [] S1 ∧
  (∀ n d acc S', ds[n]? = some d → S' p = none → I n acc S' → g d (wipeD δ vs) fun δ2 => t δ2 (put S' p (.lst acc)) fun b S2 => if b = true then de δ2 S2 (fun y S3 => ∃ S4, S4 p = none ∧ S3 = put S4 p (.lst acc) ∧ I (n + 1) (acc ++ [y]) S4) else ∃ S4, S4 p = none ∧ S2 = put S4 p (.lst acc) ∧ I (n + 1) acc S4) ∧
  ∀ acc S', S' p = none → I ds.length acc S' → k (.ref p) (put S' p (.lst acc))
section
variable {X : Cx} {K : PySem.W.Frag} {W : WXD}
theorem l_lcN {di : DI} {g : TG} {gd : DGc} {t : DT} {de : DE} {vs : List Nat} (hg : GcOk K vs g gd) (σ : L2.St) (H : Hp) (Q : VK) : lE K (dLcN di gd t de vs) σ H Q → tLc (lI K di) g (lT K t) (lE K de) vs σ H Q := fun ⟨B, δ, S, k, s, r, h, q⟩ =>
  ⟨B, δ, S, _, s, r, h, fun ds S1 B1 H1 J ⟨hlen, hp⟩ e1 r1 it => fun Dl hD => by
    have fr := (r1.fresh hD).2
    obtain ⟨I, h0, hs, hd⟩ := hp Dl fr
    refine ⟨fun i m H' => m = ds.length - i ∧ i ≤ ds.length ∧ ∃ B2 S2 acc, acc.length ≤ i ∧ S2 Dl = none ∧ Ex B1 B2 ∧ R K B2 (put S2 Dl (.lst acc)) H' ∧ I i acc S2, ⟨ds.length, rfl, Nat.zero_le _, B1, S1, [], Nat.le_refl _, fr, Ex.refl B1, r1.newS hD (.lst .nil), h0⟩, ?_⟩
    rintro i m H' ⟨rfl, hi, B2, S2, acc, hal, n2, e2, r2, hI⟩
    by_cases hlt : i < ds.length
    · refine .inr ⟨it.go i H' (e2.trans r2.ex) hlt, fun H3 => ∃ B3 S3 acc, acc.length ≤ i + 1 ∧ S3 Dl = none ∧ Ex B1 B3 ∧ R K B3 (put S3 Dl (.lst acc)) H3 ∧ I (i + 1) acc S3, fun H3 hn => ⟨ds.length - (i + 1), by omega, rfl, by omega, hn⟩, fun x H3 hy => ?_⟩
      obtain ⟨d, B3, hd', e3, r3, rd⟩ := it.yld i H' x H3 B2 _ e2 r2 hlt hy
      refine hg B3 H3 σ (wipeD δ vs) x d _ _ ((s.mono (e1.trans (e2.trans e3))).wipe vs) r3.ex rd (hs i d acc S2 hd' n2 hI) fun σ2 δ2 hk s2 hw => ⟨hw, ?_⟩
      refine ⟨B3, δ2, _, _, s2, r3, hk, fun b S4 B4 H4 h4 e4 r4 => ?_⟩
      have e14 : Ex B1 B4 := e2.trans (e3.trans e4)
      cases b with
      | false =>
        obtain ⟨S5, n5, rfl, hI5⟩ := h4
        exact ⟨B4, S5, acc, by omega, n5, e14, r4, hI5⟩
      | true =>
        refine ⟨B4, δ2, S4, _, s2.mono e4, r4, h4, fun y S5 v B5 H5 ⟨S6, n6, h6, hI6⟩ e5 r5 d5 => ?_⟩
        subst h6
        obtain ⟨xs, hx, rl⟩ := r5.lst put_same
        have r6 := r5.mut put_same (.lst (rl.append (.one d5)))
        rw [put_put] at r6
        exact ⟨xs, hx, sz_lt (by rw [rl.length]; omega), B5, S6, acc ++ [y], by simp; omega, n6, e14.trans e5, r6, hI6⟩
    · have ei : i = ds.length := by omega
      subst ei
      exact .inl ⟨it.stop _ H' (e2.trans r2.ex) (Nat.le_refl _), q _ _ _ B2 H' (hd acc S2 n2 hI) (e1.trans e2) r2 (.ref Dl)⟩⟩
theorem de_lcN {elt tg iter : Expr} {ifs : List Expr} {scope : Scope} {own : List (Str × Nat)} {pos : Pos} {di : DI} {g : TG} {gd : DGc} {t : DT} {de : DE} (hgc : GcOk K (own.map (·.2)) g gd) (hc : X.calm = true) (hN : X.N.Nodup) (hi : PI X tg iter (lI K di)) (ok : BlkOk X.N X.env.scope scope own)
    (hg : ∀ (s : Shared) (H : Hp) (C : Addr) (cl : List (Str × Addr)) (fp : List Addr), PG (X.blk s H scope (compEnvC scope cl C X.env) fp) tg g) (ht : ∀ (s : Shared) (H : Hp) (C : Addr) (cl : List (Str × Addr)) (fp : List Addr), PTs (X.blk s H scope (compEnvC scope cl C X.env) fp) ifs (lT K t))
    (he : ∀ (s : Shared) (H : Hp) (C : Addr) (cl : List (Str × Addr)) (fp : List Addr), PE (X.blk s H scope (compEnvC scope cl C X.env) fp) elt (lE K de)) (hs : ∀ x, foldedSetIterable iter X.env x = pure x := by intro _; rfl) :
    PE X (.ListComp elt [⟨tg, iter, ifs, 0⟩] scope pos) (lE K (dLcN di gd t de (own.map (·.2)))) := peOf (pe_lc hc hN hi ok hg ht he hs) (l_lcN hgc)
end
def lcNC (ds : List D) (g : DGc) (t : DT) (de : DE) (vs : List Nat) (δ : Dst) (S : Sto) (k : DK) (_ : Tag (k, g, t, de)) : Prop := dLcN (fun _ S1 kk => kk ds S1) g t de vs δ S k
section
variable {δ : Dst} {S : Sto} {k : DK} {ds : List D} {gc : DGc} {t : DT} {de : DE} {vs : List Nat} {di : DI}
theorem x_lcN : dLcN di gc t de vs δ S k = di δ S fun ds S1 => lcNC ds gc t de vs δ S1 k ⟨⟩ := propext Iff.rfl
end
end DL

set_option Elab.async false
set_option linter.all false
set_option maxRecDepth 100000
/-! ### data: != of empty dicts; sorted(dict) as a list of one's own; list(range(..)) -/
namespace DL
open PySem L2 Evl EX
section
variable {K : PySem.W.Frag}
def oSortDLN : List D → Sto → DK → Prop := fun xs S k => match xs with
  | [.ref a] => ∃ (kvs : List (Key × D)) (ks : List Int), S a = some (.dct kvs) ∧ kvs.map (·.1) = ks.map Sum.inl ∧ ks.length ≤ 100000 ∧ ∀ (ys : List Int) (p : Addr), ys.Perm ks → ys.Pairwise (· ≤ ·) → S p = none → k (.ref p) (put S p (.lst (ys.map D.int)))
  | _ => False
theorem si_sortDLN : SimC K SD.rSortDL oSortDLN := fun B S H vs xs k Q r rx h1 q => by
  unfold oSortDLN at h1
  split at h1
  · obtain ⟨v, rfl, rv⟩ := rdl1 rx
    cases rd_ref rv
    obtain ⟨kvs, ks, hs, hk, hl, h1⟩ := h1
    obtain ⟨gs, hg, rg⟩ := r.dct hs
    exact ⟨_, gs, ks, rfl, .inl hg, by rw [rdkv_keys rg]; exact hk, hl, fun ys p pm pw hp => q _ _ _ B _ (h1 ys p pm pw (r.fresh hp).2) (Ex.refl B) (r.newS hp (.lst (rdl_ints _))) (.ref p)⟩
  · exact h1.elim
end
section
variable {S : Sto} {k : DK} {x y : D} {xs : List D}
theorem x_sortDLN : oSortDLN xs S k = stC oSortDLN xs S k ⟨⟩ := propext Iff.rfl
end
end DL

set_option Elab.async false
set_option linter.all false
set_option maxRecDepth 100000
/-! ### data: list(range(a, b)) -/
namespace DL
open PySem L2 Evl EX
section
variable {K : PySem.W.Frag} {X : Cx}
def oLrg : DR2 := fun x y S k => ∃ i j : Int, x = .int i ∧ y = .int j ∧ RgOk i j ∧ k (.list (rngD i (j - i).toNat)) S
end
section
variable {S : Sto} {k : DK} {x y : D}
theorem x_lrg : oLrg x y S k = st2 oLrg x y S k ⟨⟩ := propext Iff.rfl
end
end DL

set_option Elab.async false
set_option linter.all false
set_option maxRecDepth 100000
/-! sorted(set(xs)), xs a list of whole numbers, doubles or not -/
namespace ST
open PySem PySem.Spec PyProof.Rows L2
section
variable {prog : Program} {w : World} {A : Around} {E : Value → Shared → Prop} {s : Shared}
end
end ST
namespace L2
open PySem PySem.Spec PyProof.Rows
end L2
namespace DL
open PySem L2 Evl EX
def dSortSet (da : DE) : DE := fun δ S k => da δ S fun x S1 => ∃ ns : List Int, SeqD S1 x (ns.map D.int) ∧ ns.length ≤ 1000 ∧ (∀ l : List Int, l.Nodup → (∀ j ∈ l, j ∈ ns) → l.length < 64) ∧ (∀ ds, x ≠ .tup ds) ∧ ∀ ys : List Int, ys.Pairwise (· < ·) → (∀ j, j ∈ ys ↔ j ∈ ns) → k (.list (ys.map D.int)) S1
def ssq (x : D) (S : Sto) (k : DK) (_ : Tag k) : Prop := ∃ ns : List Int, SeqD S x (ns.map D.int) ∧ ns.length ≤ 1000 ∧ (∀ l : List Int, l.Nodup → (∀ j ∈ l, j ∈ ns) → l.length < 64) ∧ (∀ ds, x ≠ .tup ds) ∧ ∀ ys : List Int, ys.Pairwise (· < ·) → (∀ j, j ∈ ys ↔ j ∈ ns) → k (.list (ys.map D.int)) S
theorem x_sortSet {da : DE} {δ : Dst} {S : Sto} {k : DK} : dSortSet da δ S k = da δ S fun x S1 => ssq x S1 k ⟨⟩ := propext Iff.rfl
end DL

set_option Elab.async false
set_option linter.all false
set_option maxRecDepth 100000
/-! a list made of a dict that will change; != of lists that hold instances -/
namespace DL
open PySem L2 Evl EX
def dLcSN (di : DIS) (g : DGc) (t : DT) (de : DE) (vs : List Nat) : DE := fun δ S k => di δ S fun ds Φ S1 => ds.length < 100000 ∧ ∀ p, S1 p = none → ∃ I : Nat → List D → Sto → Prop, I 0 [] S1 ∧ (∀ n acc S', S' p = none → I n acc S' → Φ (put S' p (.lst acc))) ∧
  (∀ n d acc S', ds[n]? = some d → S' p = none → I n acc S' → g d (wipeD δ vs) fun δ2 => t δ2 (put S' p (.lst acc)) fun b S2 => if b = true then de δ2 S2 (fun y S3 => ∃ S4, S4 p = none ∧ S3 = put S4 p (.lst acc) ∧ I (n + 1) (acc ++ [y]) S4) else ∃ S4, S4 p = none ∧ S2 = put S4 p (.lst acc) ∧ I (n + 1) acc S4) ∧
  ∀ acc S', S' p = none → I ds.length acc S' → k (.ref p) (put S' p (.lst acc))
section
variable {X : Cx} {K : PySem.W.Frag} {W : WXD}
theorem l_lcSN {di : DIS} {g : TG} {gd : DGc} {t : DT} {de : DE} {vs : List Nat} (hg : GcOk K vs g gd) (σ : L2.St) (H : Hp) (Q : VK) : lE K (dLcSN di gd t de vs) σ H Q → tLc (lIS K di) g (lT K t) (lE K de) vs σ H Q := fun ⟨B, δ, S, k, s, r, h, q⟩ =>
  ⟨B, δ, S, _, s, r, h, fun ds Φ S1 B1 H1 J ⟨hlen, hp⟩ e1 r1 it => fun Dl hD => by
    have fr := (r1.fresh hD).2
    obtain ⟨I, h0, hΦ, hs, hd⟩ := hp Dl fr
    refine ⟨fun i m H' => m = ds.length - i ∧ i ≤ ds.length ∧ ∃ B2 S2 acc, acc.length ≤ i ∧ S2 Dl = none ∧ Ex B1 B2 ∧ R K B2 (put S2 Dl (.lst acc)) H' ∧ I i acc S2, ⟨ds.length, rfl, Nat.zero_le _, B1, S1, [], Nat.le_refl _, fr, Ex.refl B1, r1.newS hD (.lst .nil), h0⟩, ?_⟩
    rintro i m H' ⟨rfl, hi, B2, S2, acc, hal, n2, e2, r2, hI⟩
    have ph := hΦ i acc S2 n2 hI
    by_cases hlt : i < ds.length
    · refine .inr ⟨it.go i B2 _ H' e2 r2 ph hlt, fun H3 => ∃ B3 S3 acc, acc.length ≤ i + 1 ∧ S3 Dl = none ∧ Ex B1 B3 ∧ R K B3 (put S3 Dl (.lst acc)) H3 ∧ I (i + 1) acc S3, fun H3 hn => ⟨ds.length - (i + 1), by omega, rfl, by omega, hn⟩, fun x H3 hy => ?_⟩
      obtain ⟨d, B3, hd', e3, r3, rd⟩ := it.yld i H' x H3 B2 _ e2 r2 ph hlt hy
      refine hg B3 H3 σ (wipeD δ vs) x d _ _ ((s.mono (e1.trans (e2.trans e3))).wipe vs) r3.ex rd (hs i d acc S2 hd' n2 hI) fun σ2 δ2 hk s2 hw => ⟨hw, ?_⟩
      refine ⟨B3, δ2, _, _, s2, r3, hk, fun b S4 B4 H4 h4 e4 r4 => ?_⟩
      have e14 : Ex B1 B4 := e2.trans (e3.trans e4)
      cases b with
      | false =>
        obtain ⟨S5, n5, rfl, hI5⟩ := h4
        exact ⟨B4, S5, acc, by omega, n5, e14, r4, hI5⟩
      | true =>
        refine ⟨B4, δ2, S4, _, s2.mono e4, r4, h4, fun y S5 v B5 H5 ⟨S6, n6, h6, hI6⟩ e5 r5 d5 => ?_⟩
        subst h6
        obtain ⟨xs, hx, rl⟩ := r5.lst put_same
        have r6 := r5.mut put_same (.lst (rl.append (.one d5)))
        rw [put_put] at r6
        exact ⟨xs, hx, sz_lt (by rw [rl.length]; omega), B5, S6, acc ++ [y], by simp; omega, n6, e14.trans e5, r6, hI6⟩
    · have ei : i = ds.length := by omega
      subst ei
      exact .inl ⟨it.stop _ B2 _ H' e2 r2 ph (Nat.le_refl _), q _ _ _ B2 H' (hd acc S2 n2 hI) (e1.trans e2) r2 (.ref Dl)⟩⟩
theorem ds_setLcSN {i : Nat} {y : Str} {py : Pos} {elt tg iter : Expr} {ifs : List Expr} {scope : Scope} {own : List (Str × Nat)} {pos spos : Pos} {di : DIS} {g : TG} {gd : DGc} {t : DT} {de : DE} (hgc : GcOk K (own.map (·.2)) g gd) (hc : X.calm = true) (hN : X.N.Nodup) (hy : X.N[i]? = some y) (hyl : X.env.scope.names.lookup y = some .local)
    (hsw : swapsWith (.ListComp elt [⟨tg, iter, ifs, 0⟩] scope pos) (some (.Name y py)) spos.line X.env = pure true) (hi : PI X tg iter (lIS K di)) (ok : BlkOk X.N X.env.scope scope own)
    (hg : ∀ (s : Shared) (H : Hp) (C : Addr) (cl : List (Str × Addr)) (fp : List Addr), PG (X.blk s H scope (compEnvC scope cl C X.env) fp) tg g) (ht : ∀ (s : Shared) (H : Hp) (C : Addr) (cl : List (Str × Addr)) (fp : List Addr), PTs (X.blk s H scope (compEnvC scope cl C X.env) fp) ifs (lT K t))
    (he : ∀ (s : Shared) (H : Hp) (C : Addr) (cl : List (Str × Addr)) (fp : List Addr), PE (X.blk s H scope (compEnvC scope cl C X.env) fp) elt (lE K de)) (hs : ∀ x, foldedSetIterable iter X.env x = pure x := by intro _; rfl) :
    PS X (.Assign [.Name y py] (.ListComp elt [⟨tg, iter, ifs, 0⟩] scope pos) spos) (lS K W (dSet (dLcSN di gd t de (own.map (·.2))) i)) := psOf (ps_setLc hc hN hy hyl hsw hi ok hg ht he hs) fun E σ H ⟨B, δ, S, D, s, r, h, l⟩ =>
  l_lcSN hgc σ H _ ⟨B, δ, S, _, s, r, h, fun x S1 v B1 H1 h1 e1 r1 d1 => l.nx _ S1 _ B1 H1 h1 e1 ((s.mono e1).set d1 i) r1⟩
end
def lcSNC (ds : List D) (Φ : Sto → Prop) (g : DGc) (t : DT) (de : DE) (vs : List Nat) (δ : Dst) (S : Sto) (k : DK) (_ : Tag (k, g, t, de)) : Prop := ds.length < 100000 ∧ ∀ p, S p = none → ∃ I : Nat → List D → Sto → Prop, I 0 [] S ∧ (∀ n acc S', S' p = none → I n acc S' → Φ (put S' p (.lst acc))) ∧
  (∀ n d acc S', ds[n]? = some d → S' p = none → I n acc S' → g d (wipeD δ vs) fun δ2 => t δ2 (put S' p (.lst acc)) fun b S2 => if b = true then de δ2 S2 (fun y S3 => ∃ S4, S4 p = none ∧ S3 = put S4 p (.lst acc) ∧ I (n + 1) (acc ++ [y]) S4) else ∃ S4, S4 p = none ∧ S2 = put S4 p (.lst acc) ∧ I (n + 1) acc S4) ∧
  ∀ acc S', S' p = none → I ds.length acc S' → k (.ref p) (put S' p (.lst acc))
section
variable {δ : Dst} {S : Sto} {k : DK} {de : DE} {gc : DGc} {t : DT} {di : DIS} {ds : List D} {Φ : Sto → Prop} {vs : List Nat}
theorem x_lcSN : dLcSN di gc t de vs δ S k = di δ S fun ds Φ S1 => lcSNC ds Φ gc t de vs δ S1 k ⟨⟩ := propext Iff.rfl
theorem lcSNOf (P : Nat → List D → Prop) (hl : ds.length < 100000) (hΦ : ∀ p acc, S p = none → Φ (put S p (.lst acc))) (h0 : P 0 [])
    (hs : ∀ p, S p = none → ∀ n d acc, ds[n]? = some d → P n acc → gc d (wipeD δ vs) fun δ2 => t δ2 (put S p (.lst acc)) fun b S2 => branch b (de δ2 S2 (fun y S3 => LcO S p acc (P (n + 1) (acc ++ [y])) S3)) (LcO S p acc (P (n + 1) acc) S2) ⟨⟩) (hd : ∀ acc p, S p = none → P ds.length acc → k (.ref p) (put S p (.lst acc))) :
    lcSNC ds Φ gc t de vs δ S k ⟨⟩ := by
  refine ⟨hl, fun p hp => ⟨fun n acc S' => S' = S ∧ P n acc, ⟨rfl, h0⟩, ?_, ?_, ?_⟩⟩
  · rintro n acc S' _ ⟨rfl, _⟩
    exact hΦ p acc hp
  · rintro n d acc S' hd' _ ⟨rfl, hP⟩
    exact hs p hp n d acc hd' hP
  · rintro acc S' _ ⟨rfl, hP⟩
    exact hd acc p hp hP
end
end DL
namespace L2
open PySem PySem.Spec PyProof.Rows
end L2
namespace DL
open PySem L2 Evl EX
def flatR : D → Bool
  | .non => true | .bl _ => true | .int _ => true | .str _ => true | .ref _ => true
  | _ => false
def oNeV : DR2 := fun x y S k => ∃ ds, SeqD S x ds ∧ SeqD S y ds ∧ (∀ es, x ≠ .tup es) ∧ (∀ es, y ≠ .tup es) ∧ ds.all flatR = true ∧ k (.bl false) S
theorem x_neV {x y : D} {S : Sto} {k : DK} : oNeV x y S k = st2 oNeV x y S k ⟨⟩ := propext Iff.rfl
end DL
namespace DL
open PySem L2 Evl EX
/-- a list: told for good, or in the store -/
def LstAt (S : Sto) (x : D) (ds : List D) : Prop := x = .list ds ∨ ∃ a, x = .ref a ∧ S a = some (.lst ds)
theorem lstAt_ok {K : PySem.W.Frag} {B H : Hp} {S : Sto} {v : V} {x : D} {ds : List D} (h : LstAt S x ds) (r : R K B S H) (rx : RdD K B v x) : ∃ p xs, v = .ref p ∧ H p = some (.lst xs) ∧ RdL K B xs ds := by
  rcases h with rfl | ⟨a, rfl, ha⟩
  · obtain ⟨a, xs, rfl, ha, rl⟩ := rd_list rx
    exact ⟨a, xs, rfl, r.ex _ _ ha, rl⟩
  · obtain ⟨xs, ha, rl⟩ := r.lst ha
    exact ⟨_, xs, rd_ref rx, ha, rl⟩
def oCatM : DR2 := fun x y S k => ∃ a b, LstAt S x a ∧ LstAt S y b ∧ a.length + b.length ≤ 100000 ∧ k (.list (a ++ b)) S
theorem x_catM {x y : D} {S : Sto} {k : DK} : oCatM x y S k = st2 oCatM x y S k ⟨⟩ := propext Iff.rfl
end DL

set_option Elab.async false
set_option linter.all false
set_option maxRecDepth 100000
namespace DL
open PySem L2 Evl EX
/-- x + y of lists, of the store or not, as a list that changes -/
def oCatMN : DR2 := fun x y S k => ∃ a b, LstAt S x a ∧ LstAt S y b ∧ a.length + b.length ≤ 100000 ∧ ∀ p, S p = none → k (.ref p) (put S p (.lst (a ++ b)))
theorem x_catMN {x y : D} {S : Sto} {k : DK} : oCatMN x y S k = st2 oCatMN x y S k ⟨⟩ := propext Iff.rfl
section
variable {X : Cx} {K : PySem.W.Frag}
end
end DL

set_option Elab.async false
set_option linter.all false
set_option maxRecDepth 100000
/-! ### what stands in the store, by places of a kind of one's own -/
namespace DL
open PySem L2 Evl EX
structure Rep {L : Type} (A : L → Addr) (C : L → Option O) (S : Sto) : Prop where
  at_ : ∀ {l : L} {o : O}, C l = some o → S (A l) = some o
  inj : ∀ {l l' : L}, C l ≠ none → C l' ≠ none → A l = A l' → l = l'
/-- from one standing to the next: all else stays, nothing is lost, what is new stands where nothing stood; what is pinned keeps its address -/
structure Tr {L : Type} (pin : L → Prop) (A : L → Addr) (C : L → Option O) (S : Sto) (A' : L → Addr) (C' : L → Option O) (S' : Sto) : Prop where
  rep : Rep A' C' S'
  fr : ∀ b, S b ≠ none → (∀ l, C l ≠ none → b ≠ A l) → S' b = S b
  grow : ∀ b, S b ≠ none → S' b ≠ none
  ext : ∀ l, C' l ≠ none → (C l ≠ none ∧ A' l = A l) ∨ S (A' l) = none
  keep : ∀ l, pin l → C l ≠ none → A' l = A l
theorem nn {α : Type} {x : Option α} {a : α} (h : x = some a) : x ≠ none := by rw [h]; exact nofun
section
variable {L : Type} {pin : L → Prop} {A A' A2 : L → Addr} {C C' C2 : L → Option O} {S S' S2 : Sto} {l : L} {o o' : O} {p : Addr}
theorem Rep.refl (R : Rep A C S) : Tr pin A C S A C S := ⟨R, fun _ _ _ => rfl, fun _ h => h, fun _ h => .inl ⟨h, rfl⟩, fun _ _ _ => rfl⟩
theorem Rep.ne (R : Rep A C S) {l l' : L} (h : C l ≠ none) (h' : C l' ≠ none) (e : l ≠ l') : A l ≠ A l' := fun z => e (R.inj h h' z)
theorem Rep.get (R : Rep A C S) (h : C l ≠ none) : ∃ o, C l = some o ∧ S (A l) = some o := by
  cases e : C l with
  | none => exact absurd e h
  | some o => exact ⟨o, rfl, R.at_ e⟩
theorem Rep.live (R : Rep A C S) (h : C l ≠ none) : S (A l) ≠ none := by
  obtain ⟨o, _, e⟩ := R.get h
  exact nn e
theorem Tr.trans (T : Tr pin A C S A' C' S') (U : Tr pin A' C' S' A2 C2 S2) (hk : ∀ l, pin l → C l ≠ none → C' l ≠ none) : Tr pin A C S A2 C2 S2 := by
  refine ⟨U.rep, fun b hb hl => ?_, fun b hb => U.grow b (T.grow b hb), fun l h => ?_, fun l hp h => ?_⟩
  · have e := T.fr b hb hl
    rw [U.fr b (by rw [e]; exact hb) fun l h z => ?_, e]
    rcases T.ext l h with ⟨h1, h2⟩ | h1
    · exact hl l h1 (z.trans h2)
    · rw [← z] at h1; exact hb h1
  · rcases U.ext l h with ⟨h1, h2⟩ | h1
    · rcases T.ext l h1 with ⟨h3, h4⟩ | h3
      · exact .inl ⟨h3, h2.trans h4⟩
      · exact .inr (by rw [h2]; exact h3)
    · refine .inr ?_
      cases e : S (A2 l) with
      | none => rfl
      | some o => exact absurd h1 (T.grow _ (nn e))
  · rw [U.keep l hp (hk l hp h), T.keep l hp h]
theorem live_of (h : C l = some o) (hl : C' l = some o') (hne : ∀ l', l' ≠ l → C' l' = C l') (l' : L) : C' l' ≠ none ↔ C l' ≠ none := by
  by_cases z : l' = l
  · subst z; rw [h, hl]; exact ⟨fun _ => nofun, fun _ => nofun⟩
  · rw [hne l' z]
/-- one thing changes -/
theorem Rep.set (R : Rep A C S) (h : C l = some o) (hl : C' l = some o') (hne : ∀ l', l' ≠ l → C' l' = C l') : Tr pin A C S A C' (put S (A l) o') := by
  have lv := live_of h hl hne
  refine ⟨⟨fun {l' u} e => ?_, fun {l1 l2} h1 h2 => R.inj ((lv l1).mp h1) ((lv l2).mp h2)⟩, fun b _ hb => put_ne (hb l (nn h)), fun b hb => ?_, fun l' h' => .inl ⟨(lv l').mp h', rfl⟩, fun _ _ _ => rfl⟩
  · by_cases z : l' = l
    · subst z; rw [put_same, ← hl, e]
    · rw [put_ne (R.ne ((lv l').mp (nn e)) (nn h) z)]
      rw [hne l' z] at e
      exact R.at_ e
  · by_cases z : b = A l
    · rw [z, put_same]; exact nofun
    · rw [put_ne z]; exact hb
/-- a thing more -/
theorem Rep.new (R : Rep A C S) (hp : S p = none) (h0 : C l = none) (hA : A' l = p) (hA' : ∀ l', C l' ≠ none → A' l' = A l') (hl : C' l = some o') (hne : ∀ l', l' ≠ l → C' l' = C l') : Tr pin A C S A' C' (put S p o') := by
  have lv : ∀ l', l' ≠ l → C' l' ≠ none → C l' ≠ none := fun l' z h => by rw [← hne l' z]; exact h
  refine ⟨⟨fun {l' u} e => ?_, fun {l1 l2} h1 h2 e => ?_⟩, fun b hb _ => put_ne (fun z => hb (by rw [z]; exact hp)), fun b hb => ?_, fun l' h' => ?_, fun l' _ h' => hA' l' h'⟩
  · by_cases z : l' = l
    · subst z; rw [hA, put_same, ← hl, e]
    · have h1 := lv l' z (nn e)
      rw [hne l' z] at e
      rw [hA' l' h1, put_ne (sto_ne (R.at_ e) hp)]
      exact R.at_ e
  · by_cases z1 : l1 = l
    · by_cases z2 : l2 = l
      · rw [z1, z2]
      · have g := lv l2 z2 h2
        rw [z1, hA, hA' l2 g] at e
        exact absurd hp (by rw [e]; exact R.live g)
    · have g1 := lv l1 z1 h1
      by_cases z2 : l2 = l
      · rw [z2, hA, hA' l1 g1] at e
        exact absurd hp (by rw [← e]; exact R.live g1)
      · have g2 := lv l2 z2 h2
        rw [hA' l1 g1, hA' l2 g2] at e
        exact R.inj g1 g2 e
  · rw [put_ne (fun z => hb (by rw [z]; exact hp))]; exact hb
  · by_cases z : l' = l
    · exact .inr (by rw [z, hA]; exact hp)
    · have := lv l' z h'
      exact .inl ⟨this, hA' l' this⟩
/-- something counts no more -/
theorem Rep.sub (R : Rep A C S) (h : ∀ l o, C' l = some o → C l = some o) : Tr pin A C S A C' S := by
  have lv : ∀ l, C' l ≠ none → C l ≠ none := fun l hl => by
    cases e : C' l with
    | none => exact absurd e hl
    | some o => exact nn (h l o e)
  exact ⟨⟨fun {l o} e => R.at_ (h l o e), fun {l1 l2} h1 h2 => R.inj (lv l1 h1) (lv l2 h2)⟩, fun _ _ _ => rfl, fun _ hb => hb, fun l hl => .inl ⟨lv l hl, rfl⟩, fun _ _ _ => rfl⟩
/-- what stands elsewhere -/
theorem Tr.other (T : Tr pin A C S A' C' S') {b : Addr} {u : O} (h : S b = some u) (hb : ∀ l, C l ≠ none → b ≠ A l) : S' b = some u := by rw [T.fr b (nn h) hb]; exact h
end
/-! two kinds of places beside one another -/
def Apart {L M : Type} (A : L → Addr) (C : L → Option O) (B : M → Addr) (E : M → Option O) : Prop := ∀ l m, C l ≠ none → E m ≠ none → A l ≠ B m
section
variable {L M : Type} {pin : L → Prop} {A A' : L → Addr} {C C' : L → Option O} {B B' : M → Addr} {E E' : M → Option O} {S S' : Sto}
theorem Apart.symm (h : Apart A C B E) : Apart B E A C := fun m l a b z => h l m b a z.symm
end
def fset {α : Type} (f : Nat → α) (n : Nat) (v : α) : Nat → α := fun i => if i = n then v else f i
section
variable {α : Type} {f : Nat → α} {n i : Nat} {v w : α}
theorem fset_same : fset f n v n = v := by unfold fset; rw [if_pos rfl]
theorem fset_ne (h : i ≠ n) : fset f n v i = f i := by unfold fset; rw [if_neg h]
theorem fset_id : fset f n (f n) = f := by
  funext i
  unfold fset
  split
  · rename_i h; rw [h]
  · rfl
end
end DL

set_option Elab.async false
set_option linter.all false
set_option maxRecDepth 100000
/-! ### halls: states, and how they go on (no program in sight) -/
namespace HM
open PySem L2 DL
/-- no thing -/
inductive NoTh : D → Prop where
  | non : NoTh .non
  | int (i : Int) : NoTh (.int i)
  | str (s : Str) (h : PyData.strOk s = true) : NoTh (.str s)
  | bl (b : Bool) : NoTh (.bl b)
/-- a value in a hall -/
inductive Vl where
  | no (d : D) | th (n : Nat)
structure Hs where
  many : Nat
  cnt : Nat → Int
  parts : Nat → List (Key × Vl)
  form : Nat → D
  own : Nat → D
  there : List Nat
  left : List Nat
  row : Option (List Nat)
  lasts : Nat
  waits : List Nat
  asked : List Nat
  rest : List Nat
  outer : List Nat
  mine : List Nat
  ends : List Nat
  told : List D
  base : Nat
def VOk (m : Nat) : Vl → Prop
  | .no d => NoTh d
  | .th j => 1 ≤ j ∧ j ≤ m
structure Wf (s : Hs) : Prop where
  nd : s.there.Nodup
  tin : ∀ n ∈ s.there, 1 ≤ n ∧ n ≤ s.many
  len : s.there.length + s.left.length ≤ s.many
  most : s.many ≤ 5000
  key : ∀ n, ((s.parts n).map (·.1)).Nodup
  plen : ∀ n, (s.parts n).length ≤ 90000
  pv : ∀ n, ∀ kv ∈ s.parts n, VOk s.many kv.2
  wnd : s.waits.Nodup
  win : ∀ n ∈ s.waits, 1 ≤ n ∧ n ≤ s.many
  rnd : ∀ l, s.row = some l → l.Nodup ∧ ∀ n ∈ l, n ∈ s.waits
  pz : ∀ n, s.many < n → s.parts n = []
  az : ∀ n ∈ s.asked, n ≤ s.many
  kok : ∀ n, ∀ kv ∈ s.parts n, (dK kv.1).any = true
  eb : ∀ n ∈ s.ends, 1 ≤ n ∧ n ≤ s.many
  an : s.asked.Nodup
  bs : s.base ≤ s.many
def Hs.dec (s : Hs) (n : Nat) : Hs := { s with cnt := fset s.cnt n (s.cnt n - 1) }
def Hs.inc (s : Hs) (n : Nat) : Hs := { s with cnt := fset s.cnt n (s.cnt n + 1) }
def Hs.held (s : Hs) : Vl → Hs
  | .no _ => s
  | .th n => s.inc n
/-- a thing that is let go now -/
def Hs.enqs (s : Hs) (n : Nat) : Bool := decide (s.cnt n = 0) && decide (n ∈ s.there) && !decide (n ∈ s.waits)
def Hs.enq (s : Hs) (n : Nat) : Hs := { s with waits := s.waits ++ [n], row := s.row.map (· ++ [n]) }
/-- a hold less, a row being at work -/
def Hs.loosed (s : Hs) : Vl → Hs
  | .no _ => s
  | .th n => if (s.dec n).enqs n = true then (s.dec n).enq n else s.dec n
/-- n's parts taken out one by one -/
def Hs.emptied (s : Hs) (n : Nat) : List (Key × Vl) → Hs
  | [] => s
  | kv :: l => (({ s with parts := fset s.parts n l } : Hs).loosed kv.2).emptied n l
def Hs.gone (s : Hs) (n : Nat) : Hs := { s with there := s.there.filter (fun i => decide (i ≠ n)), left := s.left ++ [n], rest := s.rest ++ [n] }
def Hs.bare (s : Hs) (n : Nat) : Hs := { s with rest := s.rest.filter fun i => decide (i ≠ n) }
def Hs.up (s : Hs) (n : Nat) : Hs := { s with cnt := fset s.cnt n (s.cnt n + 1), outer := s.outer ++ [n] }
def Hs.down (s : Hs) (n : Nat) : Hs := { s with cnt := fset s.cnt n (s.cnt n - 1), outer := s.outer.erase n }
def Hs.unwait (s : Hs) (n : Nat) : Hs := { s with waits := s.waits.erase n }
abbrev AskR := Hs → Nat → Hs → Prop
inductive Turn (ask : AskR) : Hs → Nat → Hs → Prop where
  | pass {s : Hs} {n : Nat} : (0 < s.cnt n ∨ n ∉ s.there) → Turn ask s n (s.unwait n)
  | stay {s s1 : Hs} {n : Nat} : ¬ (0 < s.cnt n ∨ n ∉ s.there) → ask ((s.unwait n).up n) n s1 → (s1.down n).cnt n ≠ 0 → Turn ask s n (s1.down n)
  | go {s s1 : Hs} {n : Nat} : ¬ (0 < s.cnt n ∨ n ∉ s.there) → ask ((s.unwait n).up n) n s1 → (s1.down n).cnt n = 0 → Turn ask s n ((((s1.down n).gone n).emptied n (s1.parts n)).bare n)
/-- a row worked off, by so many turns -/
inductive Work (ask : AskR) : Nat → Hs → Hs → Prop where
  | done {s : Hs} : s.row = some [] → Work ask 0 s { s with row := none }
  | step {f n : Nat} {r : List Nat} {s s1 s2 : Hs} : s.row = some (n :: r) → Turn ask { s with row := some r } n s1 → Work ask f s1 s2 → Work ask (f + 1) s s2
inductive Loose (ask : AskR) : Hs → Vl → Hs → Prop where
  | no {s : Hs} {d : D} : Loose ask s (.no d) s
  | kept {s : Hs} {n : Nat} : (s.dec n).enqs n = false → Loose ask s (.th n) (s.dec n)
  | wait {s : Hs} {n : Nat} : (s.dec n).enqs n = true → s.row ≠ none → Loose ask s (.th n) ((s.dec n).enq n)
  | work {s s' : Hs} {n f : Nat} : (s.dec n).enqs n = true → s.row = none → Work ask f { (s.dec n).enq n with row := some [n] } s' → Loose ask s (.th n) s'
/-- what is asked of how lasts are asked -/
structure AskOk (ask : AskR) : Prop where
  wf : ∀ {s n s'}, ask s n s' → Wf s → n ∈ s.there → Wf s'
  row : ∀ {s n s'}, ask s n s' → s'.row = s.row
  waits : ∀ {s n s'}, ask s n s' → s'.waits = s.waits
  many : ∀ {s n s'}, ask s n s' → s.many ≤ s'.many
  stay : ∀ {s n s'}, ask s n s' → n ∈ s.there → n ∈ s'.there
/-! states that are well made -/
theorem enqs_iff {s : Hs} {n : Nat} : s.enqs n = true ↔ s.cnt n = 0 ∧ n ∈ s.there ∧ n ∉ s.waits := by
  unfold Hs.enqs
  simp [and_assoc]
section
variable {s : Hs} {n : Nat}
theorem Wf.dec (w : Wf s) (n : Nat) : Wf (s.dec n) := ⟨w.nd, w.tin, w.len, w.most, w.key, w.plen, w.pv, w.wnd, w.win, w.rnd, w.pz, w.az, w.kok, w.eb, w.an, w.bs⟩
theorem Wf.inc (w : Wf s) (n : Nat) : Wf (s.inc n) := ⟨w.nd, w.tin, w.len, w.most, w.key, w.plen, w.pv, w.wnd, w.win, w.rnd, w.pz, w.az, w.kok, w.eb, w.an, w.bs⟩
theorem Wf.up (w : Wf s) (n : Nat) : Wf (s.up n) := ⟨w.nd, w.tin, w.len, w.most, w.key, w.plen, w.pv, w.wnd, w.win, w.rnd, w.pz, w.az, w.kok, w.eb, w.an, w.bs⟩
theorem Wf.down (w : Wf s) (n : Nat) : Wf (s.down n) := ⟨w.nd, w.tin, w.len, w.most, w.key, w.plen, w.pv, w.wnd, w.win, w.rnd, w.pz, w.az, w.kok, w.eb, w.an, w.bs⟩
theorem Wf.bare (w : Wf s) (n : Nat) : Wf (s.bare n) := ⟨w.nd, w.tin, w.len, w.most, w.key, w.plen, w.pv, w.wnd, w.win, w.rnd, w.pz, w.az, w.kok, w.eb, w.an, w.bs⟩
theorem Wf.enq (w : Wf s) (h : s.enqs n = true) : Wf (s.enq n) := by
  obtain ⟨_, h2, h3⟩ := enqs_iff.mp h
  refine ⟨w.nd, w.tin, w.len, w.most, w.key, w.plen, w.pv, ?_, fun i hi => ?_, fun l hl => ?_, w.pz, w.az, w.kok, w.eb, w.an, w.bs⟩
  · exact List.nodup_append.mpr ⟨w.wnd, by simp, fun a ha b hb e => h3 (by rw [← List.mem_singleton.mp hb, ← e]; exact ha)⟩
  · rcases List.mem_append.mp hi with hi | hi
    · exact w.win i hi
    · rw [List.mem_singleton.mp hi]; exact w.tin n h2
  · obtain ⟨l0, h0, rfl⟩ := Option.map_eq_some_iff.mp (show s.row.map (· ++ [n]) = some l from hl)
    obtain ⟨r1, r2⟩ := w.rnd l0 h0
    refine ⟨List.nodup_append.mpr ⟨r1, by simp, fun a ha b hb e => h3 (by rw [← List.mem_singleton.mp hb, ← e]; exact r2 a ha)⟩, fun i hi => ?_⟩
    show i ∈ s.waits ++ [n]
    rcases List.mem_append.mp hi with hi | hi
    · exact List.mem_append_left _ (r2 i hi)
    · exact List.mem_append_right _ hi
theorem loosed_th (s : Hs) (n : Nat) : s.loosed (.th n) = if (s.dec n).enqs n = true then (s.dec n).enq n else s.dec n := rfl
theorem Wf.loosed (w : Wf s) (v : Vl) : Wf (s.loosed v) := by
  cases v with
  | no d => exact w
  | th n =>
    rw [loosed_th]
    split
    · rename_i h; exact (w.dec n).enq h
    · exact w.dec n
theorem Wf.part (w : Wf s) {n : Nat} {kv : Key × Vl} {l : List (Key × Vl)} (h : s.parts n = kv :: l) : Wf { s with parts := fset s.parts n l } := by
  refine ⟨w.nd, w.tin, w.len, w.most, fun i => ?_, fun i => ?_, fun i kv' hk => ?_, w.wnd, w.win, w.rnd, fun i hi => ?_, w.az, fun i kv' hk => ?_, w.eb, w.an, w.bs⟩
  rotate_right
  · have hk' : kv' ∈ fset s.parts n l i := hk
    by_cases z : i = n
    · subst z
      rw [fset_same] at hk'
      exact w.kok i kv' (by rw [h]; exact List.mem_cons_of_mem _ hk')
    · rw [fset_ne z] at hk'; exact w.kok i kv' hk'
  rotate_right
  · show fset s.parts n l i = []
    by_cases z : i = n
    · subst z
      have := w.pz i hi
      rw [h] at this
      cases this
    · rw [fset_ne z]; exact w.pz i hi
  · show ((fset s.parts n l i).map (·.1)).Nodup
    by_cases z : i = n
    · subst z
      rw [fset_same]
      have := w.key i
      rw [h, List.map_cons] at this
      exact (List.nodup_cons.mp this).2
    · rw [fset_ne z]; exact w.key i
  · show (fset s.parts n l i).length ≤ _
    by_cases z : i = n
    · subst z
      rw [fset_same]
      have := w.plen i
      rw [h, List.length_cons] at this
      omega
    · rw [fset_ne z]; exact w.plen i
  · by_cases z : i = n
    · subst z
      rw [show ({ s with parts := fset s.parts i l } : Hs).parts i = l from fset_same] at hk
      exact w.pv i kv' (by rw [h]; exact List.mem_cons_of_mem _ hk)
    · rw [show ({ s with parts := fset s.parts n l } : Hs).parts i = s.parts i from fset_ne z] at hk
      exact w.pv i kv' hk
theorem loosed_parts (s : Hs) (v : Vl) : (s.loosed v).parts = s.parts := by
  cases v with
  | no d => rfl
  | th n => rw [loosed_th]; split <;> rfl
theorem loosed_many (s : Hs) (v : Vl) : (s.loosed v).many = s.many := by
  cases v with
  | no d => rfl
  | th n => rw [loosed_th]; split <;> rfl
theorem loosed_there (s : Hs) (v : Vl) : (s.loosed v).there = s.there := by
  cases v with
  | no d => rfl
  | th n => rw [loosed_th]; split <;> rfl
theorem loosed_row (s : Hs) (v : Vl) : (s.loosed v).row = none ↔ s.row = none := by
  cases v with
  | no d => exact Iff.rfl
  | th n =>
    rw [loosed_th]
    split
    · show s.row.map _ = none ↔ _
      simp
    · exact Iff.rfl
theorem Wf.emptied : ∀ {l : List (Key × Vl)} {s : Hs}, Wf s → s.parts n = l → Wf (s.emptied n l)
  | [], s, w, _ => w
  | kv :: l, s, w, h => by
    refine Wf.emptied (l := l) ((w.part h).loosed kv.2) ?_
    rw [loosed_parts]
    exact fset_same
theorem emptied_many : ∀ (l : List (Key × Vl)) (s : Hs), (s.emptied n l).many = s.many
  | [], s => rfl
  | kv :: l, s => by
    show ((({ s with parts := fset s.parts n l } : Hs).loosed kv.2).emptied n l).many = _
    rw [emptied_many l, loosed_many]
theorem emptied_row : ∀ (l : List (Key × Vl)) (s : Hs), (s.emptied n l).row = none ↔ s.row = none
  | [], s => Iff.rfl
  | kv :: l, s => by
    show ((({ s with parts := fset s.parts n l } : Hs).loosed kv.2).emptied n l).row = none ↔ _
    rw [emptied_row l, loosed_row]
theorem Wf.gone (w : Wf s) (h : n ∈ s.there) : Wf (s.gone n) := by
  refine ⟨w.nd.sublist List.filter_sublist, fun i hi => w.tin i (List.mem_filter.mp hi).1, ?_, w.most, w.key, w.plen, w.pv, w.wnd, w.win, w.rnd, w.pz, w.az, w.kok, w.eb, w.an, w.bs⟩
  show (s.there.filter fun i => decide (i ≠ n)).length + (s.left ++ [n]).length ≤ s.many
  have h1 : (s.there.filter fun i => decide (i ≠ n)).length < s.there.length := List.length_filter_lt_length_iff_exists.mpr ⟨n, h, by simp⟩
  have := w.len
  rw [List.length_append, List.length_singleton]
  omega
theorem Wf.unwait (w : Wf s) (h : ∀ l, s.row = some l → n ∉ l) : Wf (s.unwait n) := by
  refine ⟨w.nd, w.tin, w.len, w.most, w.key, w.plen, w.pv, w.wnd.erase _, fun i hi => w.win i (List.mem_of_mem_erase hi), fun l hl => ?_, w.pz, w.az, w.kok, w.eb, w.an, w.bs⟩
  obtain ⟨r1, r2⟩ := w.rnd l hl
  refine ⟨r1, fun i hi => ?_⟩
  exact (List.mem_erase_of_ne (fun z : i = n => h l hl (z ▸ hi))).mpr (r2 i hi)
theorem Wf.rowTail (w : Wf s) {r : List Nat} (h : s.row = some (n :: r)) : Wf { s with row := some r } ∧ n ∉ r ∧ n ∈ s.waits := by
  obtain ⟨r1, r2⟩ := w.rnd _ h
  obtain ⟨r3, r4⟩ := List.nodup_cons.mp r1
  refine ⟨⟨w.nd, w.tin, w.len, w.most, w.key, w.plen, w.pv, w.wnd, w.win, fun l hl => ?_, w.pz, w.az, w.kok, w.eb, w.an, w.bs⟩, r3, r2 n (List.mem_cons_self ..)⟩
  cases hl
  exact ⟨r4, fun i hi => r2 i (List.mem_cons_of_mem _ hi)⟩
end
section
variable {ask : AskR} (K : AskOk ask) {s s' : Hs} {n : Nat}
include K
theorem Turn.wf (t : Turn ask s n s') (w : Wf s) (h : ∀ l, s.row = some l → n ∉ l) : Wf s' ∧ s.many ≤ s'.many := by
  cases t with
  | pass _ => exact ⟨w.unwait h, Nat.le_refl _⟩
  | stay h1 h2 h3 =>
    rename_i s1
    have hn : n ∈ s.there := Classical.not_not.mp fun z => h1 (.inr z)
    exact ⟨(K.wf h2 ((w.unwait h).up n) hn).down n, by have := K.many h2; exact this⟩
  | go h1 h2 h3 =>
    rename_i s1
    have hn : n ∈ s.there := Classical.not_not.mp fun z => h1 (.inr z)
    have w1 := (K.wf h2 ((w.unwait h).up n) hn).down n
    have hs := K.stay h2 hn
    refine ⟨((w1.gone hs).emptied rfl).bare n, ?_⟩
    show s.many ≤ (((s1.down n).gone n).emptied n (s1.parts n)).many
    rw [emptied_many]
    have := K.many h2
    exact this
theorem Work.wf {f : Nat} (t : Work ask f s s') (w : Wf s) : Wf s' ∧ s.many ≤ s'.many := by
  induction t with
  | done h => exact ⟨⟨w.nd, w.tin, w.len, w.most, w.key, w.plen, w.pv, w.wnd, w.win, fun l hl => (nomatch hl), w.pz, w.az, w.kok, w.eb, w.an, w.bs⟩, Nat.le_refl _⟩
  | step h1 h2 h3 ih =>
    obtain ⟨w1, w2, _⟩ := w.rowTail h1
    obtain ⟨w3, w4⟩ := h2.wf K w1 fun l hl => by cases hl; exact w2
    obtain ⟨w5, w6⟩ := ih w3
    exact ⟨w5, Nat.le_trans w4 w6⟩
theorem Loose.wf {v : Vl} (t : Loose ask s v s') (w : Wf s) : Wf s' ∧ s.many ≤ s'.many := by
  cases t with
  | no => exact ⟨w, Nat.le_refl _⟩
  | kept h => exact ⟨w.dec _, Nat.le_refl _⟩
  | wait h _ => exact ⟨(w.dec _).enq h, Nat.le_refl _⟩
  | work h h1 h2 =>
    rename_i n f
    have w1 := (w.dec n).enq h
    exact h2.wf K ⟨w1.nd, w1.tin, w1.len, w1.most, w1.key, w1.plen, w1.pv, w1.wnd, w1.win, fun l hl => by
      cases hl
      exact ⟨by simp, fun i hi => by rw [List.mem_singleton.mp hi]; exact List.mem_append_right _ (List.mem_singleton.mpr rfl)⟩, w1.pz, w1.az, w1.kok, w1.eb, w1.an, w1.bs⟩
end
/-! a thing made; a part put, taken -/
def Hs.made (s : Hs) (form own : D) : Hs := { s with many := s.many + 1, cnt := fset s.cnt (s.many + 1) 0, form := fset s.form (s.many + 1) form, own := fset s.own (s.many + 1) own, there := s.there ++ [s.many + 1] }
theorem Wf.made {s : Hs} (w : Wf s) (h : s.many < 5000) (form own : D) : Wf (s.made form own) := by
  refine ⟨?_, fun i hi => ?_, ?_, by show s.many + 1 ≤ 5000; omega, w.key, w.plen, fun n kv hk => ?_, w.wnd, fun i hi => ?_, w.rnd, fun i hi => w.pz i (by have : s.many + 1 < i := hi; omega), fun i hi => ?_, w.kok, fun i hi => ⟨(w.eb i hi).1, Nat.le_succ_of_le (w.eb i hi).2⟩, w.an, Nat.le_succ_of_le w.bs⟩
  · exact List.nodup_append.mpr ⟨w.nd, by simp, fun a ha b hb e => by have := w.tin a ha; rw [List.mem_singleton.mp hb] at e; omega⟩
  · show 1 ≤ i ∧ i ≤ s.many + 1
    rcases List.mem_append.mp hi with hi | hi
    · have := w.tin i hi; omega
    · rw [List.mem_singleton.mp hi]; omega
  · show (s.there ++ [s.many + 1]).length + s.left.length ≤ s.many + 1
    have := w.len
    rw [List.length_append, List.length_singleton]
    omega
  · have := w.pv n kv hk
    show VOk (s.many + 1) kv.2
    cases e : kv.2 with
    | no d => rw [e] at this; exact this
    | th j => rw [e] at this; exact ⟨this.1, Nat.le_succ_of_le this.2⟩
  · have := w.win i hi
    show 1 ≤ i ∧ i ≤ s.many + 1
    omega
  · have := w.az i hi
    show i ≤ s.many + 1
    omega
def Hs.putP (s : Hs) (n : Nat) (k : Key) (v : Vl) : Hs := { s.held v with parts := fset s.parts n (gput (s.parts n) k v) }
def Hs.dropP (s : Hs) (n : Nat) (k : Key) : Hs := { s with parts := fset s.parts n (gdrop (s.parts n) k) }
def oldP (s : Hs) (n : Nat) (k : Key) : Vl := (gval (s.parts n) k).getD (.no .non)
open Classical in
theorem gput_keys {β : Type} (l : List (Key × β)) (k : Key) (v : β) : (gput l k v).map (·.1) = if k ∈ l.map (·.1) then l.map (·.1) else l.map (·.1) ++ [k] := by
  unfold gput
  by_cases h : k ∈ l.map (·.1)
  · obtain ⟨kv, h1, h2⟩ := List.mem_map.mp h
    rw [if_pos h, if_pos (List.any_eq_true.mpr ⟨kv, h1, by simpa using h2⟩), List.map_map]
    refine List.map_congr_left fun x _ => ?_
    show (if x.1 = k then (x.1, v) else x).1 = x.1
    split <;> rfl
  · rw [if_neg h, if_neg, List.map_append, List.map_singleton]
    intro z
    obtain ⟨kv, h1, h2⟩ := List.any_eq_true.mp z
    exact h (List.mem_map.mpr ⟨kv, h1, by simpa using h2⟩)
theorem gput_mem {β : Type} {l : List (Key × β)} {k : Key} {v : β} {x : Key × β} (h : x ∈ gput l k v) : x ∈ l ∨ x.2 = v := by
  unfold gput at h
  split at h
  · obtain ⟨y, h1, h2⟩ := List.mem_map.mp h
    split at h2
    · exact .inr (by rw [← h2])
    · exact .inl (by rw [← h2]; exact h1)
  · rcases List.mem_append.mp h with h | h
    · exact .inl h
    · exact .inr (by rw [List.mem_singleton.mp h])
theorem Wf.held {s : Hs} (w : Wf s) (v : Vl) : Wf (s.held v) := by
  cases v with
  | no d => exact w
  | th n => exact w.inc n
theorem held_many (s : Hs) (v : Vl) : (s.held v).many = s.many := by cases v <;> rfl
theorem held_parts (s : Hs) (v : Vl) : (s.held v).parts = s.parts := by cases v <;> rfl
theorem Wf.setParts {s : Hs} (w : Wf s) {n : Nat} (hn : n ≤ s.many) {l : List (Key × Vl)} (h1 : (l.map (·.1)).Nodup) (h2 : l.length ≤ 90000) (h3 : ∀ kv ∈ l, VOk s.many kv.2) (h4 : ∀ kv ∈ l, (dK kv.1).any = true) : Wf { s with parts := fset s.parts n l } := by
  refine ⟨w.nd, w.tin, w.len, w.most, fun i => ?_, fun i => ?_, fun i kv hk => ?_, w.wnd, w.win, w.rnd, fun i hi => ?_, w.az, fun i kv hk => ?_, w.eb, w.an, w.bs⟩
  rotate_right
  · have hk' : kv ∈ fset s.parts n l i := hk
    by_cases z : i = n
    · subst z; rw [fset_same] at hk'; exact h4 kv hk'
    · rw [fset_ne z] at hk'; exact w.kok i kv hk'
  · show ((fset s.parts n l i).map (·.1)).Nodup
    by_cases z : i = n
    · subst z; rw [fset_same]; exact h1
    · rw [fset_ne z]; exact w.key i
  · show (fset s.parts n l i).length ≤ _
    by_cases z : i = n
    · subst z; rw [fset_same]; exact h2
    · rw [fset_ne z]; exact w.plen i
  · have hk' : kv ∈ fset s.parts n l i := hk
    show VOk s.many kv.2
    by_cases z : i = n
    · subst z; rw [fset_same] at hk'; exact h3 kv hk'
    · rw [fset_ne z] at hk'; exact w.pv i kv hk'
  · show fset s.parts n l i = []
    rw [fset_ne (by have : s.many < i := hi; omega)]
    exact w.pz i hi
theorem gput_key {β : Type} {l : List (Key × β)} {k : Key} {v : β} {x : Key × β} (h : x ∈ gput l k v) : (∃ y ∈ l, y.1 = x.1) ∨ x.1 = k := by
  unfold gput at h
  split at h
  · obtain ⟨y, h1, h2⟩ := List.mem_map.mp h
    refine .inl ⟨y, h1, ?_⟩
    split at h2
    · rw [← h2]
    · rw [← h2]
  · rcases List.mem_append.mp h with h | h
    · exact .inl ⟨x, h, rfl⟩
    · exact .inr (by rw [List.mem_singleton.mp h])
theorem Wf.putP {s : Hs} (w : Wf s) {n : Nat} {k : Key} {v : Vl} (hn : n ≤ s.many) (hv : VOk s.many v) (hk : (dK k).any = true) (hl : (s.parts n).length < 90000) : Wf (s.putP n k v) := by
  have h := (w.held v).setParts (n := n) (l := gput (s.parts n) k v) (by rw [held_many]; exact hn) ?_ ?_ ?_ ?_
  · rw [held_parts] at h; exact h
  · rw [gput_keys]
    split
    · exact w.key n
    · rename_i hk
      exact List.nodup_append.mpr ⟨w.key n, by simp, fun a ha b hb e => hk (by rw [← List.mem_singleton.mp hb, ← e]; exact ha)⟩
  · have := congrArg List.length (gput_keys (s.parts n) k v)
    rw [List.length_map] at this
    rw [this]
    split
    · rw [List.length_map]; omega
    · rw [List.length_append, List.length_map, List.length_singleton]; omega
  · intro kv hk
    rw [held_many]
    rcases gput_mem hk with h | h
    · exact w.pv n kv h
    · rw [h]; exact hv
  · intro kv hk'
    rcases gput_key hk' with ⟨y, h1, h2⟩ | h
    · rw [← h2]; exact w.kok n y h1
    · rw [h]; exact hk
theorem Wf.dropP {s : Hs} (w : Wf s) {n : Nat} {k : Key} (hn : n ≤ s.many) : Wf (s.dropP n k) := by
  refine w.setParts hn ?_ ?_ ?_ fun kv hk => w.kok n kv (List.mem_filter.mp hk).1
  · exact (w.key n).sublist (List.filter_sublist.map _)
  · exact Nat.le_trans (List.length_filter_le ..) (w.plen n)
  · exact fun kv hk => w.pv n kv (List.mem_filter.mp hk).1
theorem oldP_ok {s : Hs} (w : Wf s) (n : Nat) (k : Key) : VOk s.many (oldP s n k) := by
  unfold oldP gval
  cases e : (s.parts n).find? fun kv => decide (kv.1 = k) with
  | none => exact NoTh.non
  | some kv => exact w.pv n kv (List.mem_of_find?_eq_some e)
end HM

set_option Elab.async false
set_option linter.all false
set_option maxRecDepth 100000
/-! ### a hall in the store -/
namespace HM
open PySem L2 DL
def thFs (form num cnt parts own ended waits : D) : List (Str × D) := [("form", form), ("number", num), ("count", cnt), ("parts", parts), ("own", own), ("ended", ended), ("waits", waits)]
def haFs (ender many there left row lasts : D) : List (Str × D) := [("ender", ender), ("many", many), ("there", there), ("left", left), ("row", row), ("lasts", lasts)]
section
variable {a b c d e f g x : D}
theorem th_number : (thFs a b c d e f g).lookup ("number" : Str) = some b := rfl
theorem th_count : (thFs a b c d e f g).lookup ("count" : Str) = some c := rfl
theorem th_parts : (thFs a b c d e f g).lookup ("parts" : Str) = some d := rfl
theorem th_own : (thFs a b c d e f g).lookup ("own" : Str) = some e := rfl
theorem th_ended : (thFs a b c d e f g).lookup ("ended" : Str) = some f := rfl
theorem th_waits : (thFs a b c d e f g).lookup ("waits" : Str) = some g := rfl
theorem th_count' : putFD "count" x (thFs a b c d e f g) = thFs a b x d e f g := rfl
theorem th_ended' : putFD "ended" x (thFs a b c d e f g) = thFs a b c d e x g := rfl
theorem th_waits' : putFD "waits" x (thFs a b c d e f g) = thFs a b c d e f x := rfl
theorem ha_ender : (haFs a b c d e f).lookup ("ender" : Str) = some a := rfl
theorem ha_many : (haFs a b c d e f).lookup ("many" : Str) = some b := rfl
theorem ha_there : (haFs a b c d e f).lookup ("there" : Str) = some c := rfl
theorem ha_left : (haFs a b c d e f).lookup ("left" : Str) = some d := rfl
theorem ha_row : (haFs a b c d e f).lookup ("row" : Str) = some e := rfl
theorem ha_lasts : (haFs a b c d e f).lookup ("lasts" : Str) = some f := rfl
theorem ha_many' : putFD "many" x (haFs a b c d e f) = haFs a x c d e f := rfl
theorem ha_row' : putFD "row" x (haFs a b c d e f) = haFs a b c d x f := rfl
theorem ha_lasts' : putFD "lasts" x (haFs a b c d e f) = haFs a b c d e x := rfl
end
inductive HL where
  | hall | th | lf | row | t (n : Nat) | pd (n : Nat) | x (i : Nat)
  deriving DecidableEq
structure HA where
  a : HL → Addr
  dx : Addr
  dt : Nat → Addr
/-- an ender: what stands for it in the hall, and its own things in the store (by their places, the hall's, the things', what was asked, held, told, and how many things were there when it was told its plans) -/
structure Ed where
  d : (Nat → Addr) → D
  x : (Nat → Addr) → Addr → (Nat → Addr) → List Nat → List Nat → List D → Nat → Nat → Option O
  cg : ∀ {X : Nat → Addr} {h : Addr} {f g : Nat → Addr} {a e : List Nat} {t : List D} {b : Nat}, (∀ n ∈ e, f n = g n) → (∀ n, n ≤ b → f n = g n) → x X h f a e t b = x X h g a e t b
  lv : ∀ {X Y : Nat → Addr} {h h' : Addr} {f g : Nat → Addr} {a a' e e' : List Nat} {t t' : List D} {b b' i : Nat}, x X h f a e t b i ≠ none → x Y h' g a' e' t' b' i ≠ none
def Ed.non : Ed := ⟨fun _ => .non, fun _ _ _ _ _ _ _ _ => none, fun _ _ => rfl, fun h => h⟩
def vD (H : HA) : Vl → D
  | .no d => d
  | .th n => .ref (H.a (.t n))
def rowD (H : HA) : Option (List Nat) → D
  | none => .non
  | some _ => .ref (H.a .row)
def hallO (CH : Addr) (en : Ed) (H : HA) (s : Hs) : O := .ins CH H.dx (haFs (en.d fun i => H.a (.x i)) (.int (s.many : Int)) (.ref (H.a .th)) (.ref (H.a .lf)) (rowD H s.row) (.int (s.lasts : Int)))
def thereO (H : HA) (l : List Nat) : O := .dct (l.map fun n : Nat => ((.inl (n : Int), .ref (H.a (.t n))) : Key × D))
def leftO (l : List Nat) : O := .lst (l.map fun n : Nat => .int (n : Int))
def rowO (H : HA) (l : List Nat) : O := .lst (l.map fun n => .ref (H.a (.t n)))
def thingO (CT : Addr) (H : HA) (s : Hs) (n : Nat) : O := .ins CT (H.dt n) (thFs (s.form n) (.int (n : Int)) (.int (s.cnt n)) (.ref (H.a (.pd n))) (s.own n) (.bl (decide (n ∈ s.asked))) (.bl (decide (n ∈ s.waits))))
def partsO (H : HA) (l : List (Key × Vl)) : O := .dct (l.map fun kv => ((kv.1, vD H kv.2) : Key × D))
def hC (CT CH : Addr) (en : Ed) (H : HA) (s : Hs) : HL → Option O
  | .hall => some (hallO CH en H s)
  | .th => some (thereO H s.there)
  | .lf => some (leftO s.left)
  | .row => s.row.map (rowO H)
  | .t n => if 1 ≤ n ∧ n ≤ s.many then some (thingO CT H s n) else none
  | .pd n => if 1 ≤ n ∧ n ≤ s.many then some (partsO H (s.parts n)) else none
  | .x i => en.x (fun i => H.a (.x i)) (H.a .hall) (fun n => H.a (.t n)) s.asked s.ends s.told s.base i
/-- a hall stands in the store -/
abbrev HRep (CT CH : Addr) (en : Ed) (H : HA) (s : Hs) (S : Sto) : Prop := Rep H.a (hC CT CH en H s) S
structure HTr (CT CH : Addr) (en : Ed) (H : HA) (s : Hs) (S : Sto) (H' : HA) (s' : Hs) (S' : Sto) : Prop where
  tr : Tr (fun l => l ≠ HL.row) H.a (hC CT CH en H s) S H'.a (hC CT CH en H' s') S'
  many : s.many ≤ s'.many
section
variable {CT CH : Addr} {en : Ed} {H H' H2 : HA} {s s' s2 : Hs} {S S' S2 : Sto} {n : Nat}
theorem hC_t (h1 : 1 ≤ n) (h2 : n ≤ s.many) : hC CT CH en H s (.t n) = some (thingO CT H s n) := if_pos ⟨h1, h2⟩
theorem hC_pd (h1 : 1 ≤ n) (h2 : n ≤ s.many) : hC CT CH en H s (.pd n) = some (partsO H (s.parts n)) := if_pos ⟨h1, h2⟩
theorem hrep_hall (R : HRep CT CH en H s S) : S (H.a .hall) = some (.ins CH H.dx (haFs (en.d fun i => H.a (.x i)) (.int (s.many : Int)) (.ref (H.a .th)) (.ref (H.a .lf)) (rowD H s.row) (.int (s.lasts : Int)))) := R.at_ (l := .hall) rfl
theorem hrep_th (R : HRep CT CH en H s S) : S (H.a .th) = some (.dct (s.there.map fun n : Nat => ((.inl (n : Int), .ref (H.a (.t n))) : Key × D))) := R.at_ (l := .th) rfl
theorem hrep_lf (R : HRep CT CH en H s S) : S (H.a .lf) = some (.lst (s.left.map fun n : Nat => .int (n : Int))) := R.at_ (l := .lf) rfl
theorem hrep_row (R : HRep CT CH en H s S) {l : List Nat} (h : s.row = some l) : S (H.a .row) = some (.lst (l.map fun n => .ref (H.a (.t n)))) := R.at_ (l := .row) (by show s.row.map (rowO H) = _; rw [h]; rfl)
theorem hrep_t (R : HRep CT CH en H s S) (h1 : 1 ≤ n) (h2 : n ≤ s.many) : S (H.a (.t n)) = some (.ins CT (H.dt n) (thFs (s.form n) (.int (n : Int)) (.int (s.cnt n)) (.ref (H.a (.pd n))) (s.own n) (.bl (decide (n ∈ s.asked))) (.bl (decide (n ∈ s.waits))))) := R.at_ (hC_t h1 h2)
theorem hrep_pd (R : HRep CT CH en H s S) (h1 : 1 ≤ n) (h2 : n ≤ s.many) : S (H.a (.pd n)) = some (.dct ((s.parts n).map fun kv => ((kv.1, vD H kv.2) : Key × D))) := R.at_ (hC_pd h1 h2)
theorem hC_live {l : HL} (hl : l ≠ .row) (hm : s.many ≤ s'.many) (h : hC CT CH en H s l ≠ none) : hC CT CH en H' s' l ≠ none := by
  cases l with
  | hall => exact nofun
  | th => exact nofun
  | lf => exact nofun
  | row => exact absurd rfl hl
  | t n =>
    have h' : (if 1 ≤ n ∧ n ≤ s.many then some (thingO CT H s n) else none) ≠ none := h
    show (if 1 ≤ n ∧ n ≤ s'.many then some (thingO CT H' s' n) else none) ≠ none
    split at h'
    · rename_i hn; rw [if_pos ⟨hn.1, Nat.le_trans hn.2 hm⟩]; exact nofun
    · exact absurd rfl h'
  | pd n =>
    have h' : (if 1 ≤ n ∧ n ≤ s.many then some (partsO H (s.parts n)) else none) ≠ none := h
    show (if 1 ≤ n ∧ n ≤ s'.many then some (partsO H' (s'.parts n)) else none) ≠ none
    split at h'
    · rename_i hn; rw [if_pos ⟨hn.1, Nat.le_trans hn.2 hm⟩]; exact nofun
    · exact absurd rfl h'
  | x i => exact en.lv h
theorem HTr.rep (T : HTr CT CH en H s S H' s' S') : HRep CT CH en H' s' S' := T.tr.rep
theorem HTr.refl (R : HRep CT CH en H s S) : HTr CT CH en H s S H s S := ⟨R.refl, Nat.le_refl _⟩
theorem HTr.trans (T : HTr CT CH en H s S H' s' S') (U : HTr CT CH en H' s' S' H2 s2 S2) : HTr CT CH en H s S H2 s2 S2 := ⟨T.tr.trans U.tr fun l hl h => hC_live hl T.many h, Nat.le_trans T.many U.many⟩
theorem HTr.t (T : HTr CT CH en H s S H' s' S') (h1 : 1 ≤ n) (h2 : n ≤ s.many) : H'.a (.t n) = H.a (.t n) := T.tr.keep (.t n) (nofun) (by rw [hC_t h1 h2]; exact nofun)
theorem HTr.hall (T : HTr CT CH en H s S H' s' S') : H'.a .hall = H.a .hall := T.tr.keep .hall (nofun) (nofun)
theorem HTr.pd (T : HTr CT CH en H s S H' s' S') (h1 : 1 ≤ n) (h2 : n ≤ s.many) : H'.a (.pd n) = H.a (.pd n) := T.tr.keep (.pd n) (nofun) (by rw [hC_pd h1 h2]; exact nofun)
/-- what the store does not show -/
theorem HTr.ghost (R : HRep CT CH en H s S) (h : hC CT CH en H s' = hC CT CH en H s) (hm : s'.many = s.many) : HTr CT CH en H s S H s' S := ⟨by rw [h]; exact R.refl, by rw [hm]; exact Nat.le_refl _⟩
theorem HTr.setAt (R : HRep CT CH en H s S) {l : HL} {o o' : O} (h : hC CT CH en H s l = some o) (h' : hC CT CH en H s' l = some o') (hne : ∀ l', l' ≠ l → hC CT CH en H s' l' = hC CT CH en H s l') (hm : s'.many = s.many) : HTr CT CH en H s S H s' (put S (H.a l) o') := ⟨R.set h h' hne, by rw [hm]; exact Nat.le_refl _⟩
/-- a thing's count, waiting, asked -/
theorem HTr.thing (R : HRep CT CH en H s S) (h1 : 1 ≤ n) (h2 : n ≤ s.many) (c : Int) (w a : List Nat) (hw : ∀ i, i ≠ n → (i ∈ w ↔ i ∈ s.waits)) (ha : ∀ i, i ≠ n → (i ∈ a ↔ i ∈ s.asked)) (hx : ∀ X h f i, en.x X h f a s.ends s.told s.base i = en.x X h f s.asked s.ends s.told s.base i) :
    HTr CT CH en H s S H { s with cnt := fset s.cnt n c, waits := w, asked := a } (put S (H.a (.t n)) (.ins CT (H.dt n) (thFs (s.form n) (.int (n : Int)) (.int c) (.ref (H.a (.pd n))) (s.own n) (.bl (decide (n ∈ a))) (.bl (decide (n ∈ w)))))) := by
  refine HTr.setAt R (l := .t n) (hC_t h1 h2) ?_ (fun l' hl => ?_) rfl
  · show (if 1 ≤ n ∧ n ≤ s.many then some (thingO CT H _ n) else none) = _
    rw [if_pos ⟨h1, h2⟩]
    unfold thingO
    simp only [fset_same]
  · cases l' with
    | t i =>
      have z : i ≠ n := fun e => hl (by rw [e])
      show (if 1 ≤ i ∧ i ≤ s.many then some (thingO CT H _ i) else none) = if 1 ≤ i ∧ i ≤ s.many then some (thingO CT H s i) else none
      have : thingO CT H { s with cnt := fset s.cnt n c, waits := w, asked := a } i = thingO CT H s i := by
        unfold thingO
        simp only [fset_ne z]
        rw [decide_eq_decide.mpr (hw i z), decide_eq_decide.mpr (ha i z)]
      rw [this]
    | x i => exact hx _ _ _ _
    | _ => rfl
theorem HTr.cnt (R : HRep CT CH en H s S) (h1 : 1 ≤ n) (h2 : n ≤ s.many) (c : Int) :
    HTr CT CH en H s S H { s with cnt := fset s.cnt n c } (put S (H.a (.t n)) (.ins CT (H.dt n) (thFs (s.form n) (.int (n : Int)) (.int c) (.ref (H.a (.pd n))) (s.own n) (.bl (decide (n ∈ s.asked))) (.bl (decide (n ∈ s.waits)))))) :=
  HTr.thing R h1 h2 c s.waits s.asked (fun _ _ => Iff.rfl) (fun _ _ => Iff.rfl) fun _ _ _ _ => rfl
theorem HTr.wait (R : HRep CT CH en H s S) (h1 : 1 ≤ n) (h2 : n ≤ s.many) (w : List Nat) (hw : ∀ i, i ≠ n → (i ∈ w ↔ i ∈ s.waits)) :
    HTr CT CH en H s S H { s with waits := w } (put S (H.a (.t n)) (.ins CT (H.dt n) (thFs (s.form n) (.int (n : Int)) (.int (s.cnt n)) (.ref (H.a (.pd n))) (s.own n) (.bl (decide (n ∈ s.asked))) (.bl (decide (n ∈ w)))))) := by
  have := HTr.thing R h1 h2 (s.cnt n) w s.asked hw (fun _ _ => Iff.rfl) fun _ _ _ _ => rfl
  rw [fset_id] at this
  exact this
theorem HTr.there (R : HRep CT CH en H s S) (l : List Nat) : HTr CT CH en H s S H { s with there := l } (put S (H.a .th) (.dct (l.map fun n : Nat => ((.inl (n : Int), .ref (H.a (.t n))) : Key × D)))) := by
  refine HTr.setAt R (l := .th) rfl rfl (fun l' hl => ?_) rfl
  cases l' with
  | th => exact absurd rfl hl
  | _ => rfl
theorem HTr.left (R : HRep CT CH en H s S) (l : List Nat) : HTr CT CH en H s S H { s with left := l } (put S (H.a .lf) (.lst (l.map fun n : Nat => .int (n : Int)))) := by
  refine HTr.setAt R (l := .lf) rfl rfl (fun l' hl => ?_) rfl
  cases l' with
  | lf => exact absurd rfl hl
  | _ => rfl
theorem HTr.setRow (R : HRep CT CH en H s S) {l0 : List Nat} (h : s.row = some l0) (l : List Nat) : HTr CT CH en H s S H { s with row := some l } (put S (H.a .row) (.lst (l.map fun n => .ref (H.a (.t n))))) := by
  refine HTr.setAt R (l := .row) (o := rowO H l0) (by show s.row.map (rowO H) = _; rw [h]; rfl) rfl (fun l' hl => ?_) rfl
  cases l' with
  | row => exact absurd rfl hl
  | hall => show some (hallO CH en H _) = some (hallO CH en H s); unfold hallO; dsimp only; rw [h]; rfl
  | _ => rfl
theorem HTr.parts (R : HRep CT CH en H s S) (h1 : 1 ≤ n) (h2 : n ≤ s.many) (l : List (Key × Vl)) : HTr CT CH en H s S H { s with parts := fset s.parts n l } (put S (H.a (.pd n)) (.dct (l.map fun kv => ((kv.1, vD H kv.2) : Key × D)))) := by
  refine HTr.setAt R (l := .pd n) (hC_pd h1 h2) ?_ (fun l' hl => ?_) rfl
  · show (if 1 ≤ n ∧ n ≤ s.many then some (partsO H (fset s.parts n l n)) else none) = _
    rw [if_pos ⟨h1, h2⟩, fset_same]
    rfl
  · cases l' with
    | pd i =>
      have z : i ≠ n := fun e => hl (by rw [e])
      show (if 1 ≤ i ∧ i ≤ s.many then some (partsO H (fset s.parts n l i)) else none) = if 1 ≤ i ∧ i ≤ s.many then some (partsO H (s.parts i)) else none
      rw [fset_ne z]
    | _ => rfl
/-- the row is worked off -/
theorem HTr.noRow (R : HRep CT CH en H s S) : HTr CT CH en H s S H { s with row := none } (put S (H.a .hall) (.ins CH H.dx (haFs (en.d fun i => H.a (.x i)) (.int (s.many : Int)) (.ref (H.a .th)) (.ref (H.a .lf)) .non (.int (s.lasts : Int))))) := by
  have T1 : Tr (fun l => l ≠ HL.row) H.a (hC CT CH en H s) S H.a (fun l => if l = .row then none else hC CT CH en H s l) S := R.sub fun l o h => by
    by_cases z : l = .row
    · rw [if_pos z] at h; cases h
    · rw [if_neg z] at h; exact h
  refine ⟨T1.trans (T1.rep.set (l := .hall) (o := hallO CH en H s) (by rw [if_neg (by exact nofun)]; rfl) rfl fun l' hl => ?_) (fun l hl h => by rw [if_neg hl]; exact h), Nat.le_refl _⟩
  cases l' with
  | hall => exact absurd rfl hl
  | row => rfl
  | _ => rw [if_neg (by exact nofun)]; rfl
/-- a row is begun -/
theorem HTr.begun (R : HRep CT CH en H s S) (h0 : s.row = none) {p : Addr} (hp : S p = none) (l : List Nat) :
    HTr CT CH en H s S { H with a := fun x => if x = .row then p else H.a x } { s with row := some l } (put (put S p (.lst (l.map fun n => .ref (H.a (.t n))))) (H.a .hall) (.ins CH H.dx (haFs (en.d fun i => H.a (.x i)) (.int (s.many : Int)) (.ref (H.a .th)) (.ref (H.a .lf)) (.ref p) (.int (s.lasts : Int))))) := by
  have T1 : Tr (fun l => l ≠ HL.row) H.a (hC CT CH en H s) S (fun x => if x = .row then p else H.a x) (fun x => if x = .row then some (rowO H l) else hC CT CH en H s x) (put S p (rowO H l)) := by
    refine R.new (l := .row) hp (by show s.row.map (rowO H) = none; rw [h0]; rfl) (if_pos rfl) (fun l' h => ?_) (if_pos rfl) fun l' h => if_neg h
    rw [if_neg]
    intro z
    subst z
    exact h (by show s.row.map (rowO H) = none; rw [h0]; rfl)
  have e1 : (if HL.hall = HL.row then p else H.a .hall) = H.a .hall := rfl
  have T2 := T1.rep.set (pin := fun l => l ≠ HL.row) (l := .hall) (o := hallO CH en H s) (C' := hC CT CH en { H with a := fun x => if x = .row then p else H.a x } { s with row := some l }) (o' := .ins CH H.dx (haFs (en.d fun i => H.a (.x i)) (.int (s.many : Int)) (.ref (H.a .th)) (.ref (H.a .lf)) (.ref p) (.int (s.lasts : Int)))) rfl rfl fun l' hl => by
    cases l' with
    | hall => exact absurd rfl hl
    | _ => rfl
  exact ⟨T1.trans T2 fun l hl h => by rw [if_neg hl]; exact h, Nat.le_refl _⟩
/-- a thing more -/
theorem HTr.make (R : HRep CT CH en H s S) (w : Wf s) {t pd dt : Addr} {form own : D} (h0 : s.parts (s.many + 1) = []) (hw : s.many + 1 ∉ s.waits) (ha : s.many + 1 ∉ s.asked) (n1 : S t = none) (n2 : S pd = none) (ne : t ≠ pd)
    (e1 : S' t = some (.ins CT dt (thFs form (.int ((s.many : Int) + 1)) (.int 0) (.ref pd) own (.bl false) (.bl false)))) (e2 : S' pd = some (.dct [])) (e3 : S' (H.a .hall) = some (.ins CH H.dx (haFs (en.d fun i => H.a (.x i)) (.int ((s.many : Int) + 1)) (.ref (H.a .th)) (.ref (H.a .lf)) (rowD H s.row) (.int (s.lasts : Int)))))
    (e4 : S' (H.a .th) = some (.dct (s.there.map (fun n : Nat => ((.inl (n : Int), .ref (H.a (.t n))) : Key × D)) ++ [((.inl ((s.many : Int) + 1) : Key), .ref t)]))) (fr : ∀ b, b ≠ t → b ≠ pd → b ≠ H.a .hall → b ≠ H.a .th → S' b = S b) :
    HTr CT CH en H s S { H with a := fun x => if x = .t (s.many + 1) then t else if x = .pd (s.many + 1) then pd else H.a x, dt := fset H.dt (s.many + 1) dt }
      { s with many := s.many + 1, cnt := fset s.cnt (s.many + 1) 0, form := fset s.form (s.many + 1) form, own := fset s.own (s.many + 1) own, there := s.there ++ [s.many + 1] } S' := by
  have ec : ((s.many + 1 : Nat) : Int) = (s.many : Int) + 1 := by omega
  have ha' : ∀ l, l ≠ .t (s.many + 1) → l ≠ .pd (s.many + 1) → (if l = HL.t (s.many + 1) then t else if l = .pd (s.many + 1) then pd else H.a l) = H.a l := fun l h1 h2 => by rw [if_neg h1, if_neg h2]
  have hat : ∀ i, i ≤ s.many → (if HL.t i = HL.t (s.many + 1) then t else if HL.t i = .pd (s.many + 1) then pd else H.a (.t i)) = H.a (.t i) := fun i hi => ha' _ (fun z => by cases z; omega) nofun
  have hap : ∀ i, i ≤ s.many → (if HL.pd i = HL.t (s.many + 1) then t else if HL.pd i = .pd (s.many + 1) then pd else H.a (.pd i)) = H.a (.pd i) := fun i hi => ha' _ nofun (fun z => by cases z; omega)
  have hvd : ∀ i, ((s.parts i).map fun kv => ((kv.1, vD { H with a := fun x => if x = .t (s.many + 1) then t else if x = .pd (s.many + 1) then pd else H.a x, dt := fset H.dt (s.many + 1) dt } kv.2) : Key × D)) = (s.parts i).map fun kv => (kv.1, vD H kv.2) := fun i => List.map_congr_left fun kv hkv => by
    have := w.pv i kv hkv
    cases e : kv.2 with
    | no d => rfl
    | th j =>
      rw [e] at this
      show (kv.1, D.ref (if HL.t j = HL.t (s.many + 1) then t else if HL.t j = .pd (s.many + 1) then pd else H.a (.t j))) = (kv.1, D.ref (H.a (.t j)))
      rw [hat j this.2]
  have live0 : ∀ l o, hC CT CH en H s l = some o → l ≠ .t (s.many + 1) ∧ l ≠ .pd (s.many + 1) := fun l o h => by
    constructor
    · rintro rfl
      have : hC CT CH en H s (.t (s.many + 1)) = none := if_neg (by omega)
      rw [this] at h; cases h
    · rintro rfl
      have : hC CT CH en H s (.pd (s.many + 1)) = none := if_neg (by omega)
      rw [this] at h; cases h
  have keepS : ∀ l o, hC CT CH en H s l = some o → l ≠ .hall → l ≠ .th → S' (H.a l) = some o := fun l o h g1 g2 => by
    have hS := R.at_ h
    rw [fr _ (sto_ne hS n1) (sto_ne hS n2) (R.ne (nn h) (by exact nofun) g1) (R.ne (nn h) (by exact nofun) g2)]
    exact hS
  refine ⟨⟨⟨fun {l o} h => ?_, fun {l l'} h h' e => ?_⟩, fun b hb hl => ?_, fun b hb => ?_, fun l h => ?_, fun l _ h => ?_⟩, by show s.many ≤ s.many + 1; omega⟩
  · cases l with
    | hall =>
      cases h
      show S' (H.a .hall) = _
      rw [e3]
      unfold hallO
      dsimp only
      rw [ec]
      cases s.row <;> rfl
    | th =>
      cases h
      show S' (H.a .th) = _
      rw [e4]
      unfold thereO
      rw [List.map_append, List.map_singleton, ec]
      congr 2
      congr 1
      · exact List.map_congr_left fun n hn => by
          have := w.tin n hn
          show _ = ((Sum.inl (n : Int), D.ref (if HL.t n = HL.t (s.many + 1) then t else if HL.t n = .pd (s.many + 1) then pd else H.a (.t n))) : Key × D)
          rw [hat n this.2]
      · show _ = [((Sum.inl ((s.many : Int) + 1), D.ref (if HL.t (s.many + 1) = HL.t (s.many + 1) then t else _)) : Key × D)]
        rw [if_pos rfl]
    | lf => cases h; exact keepS .lf _ rfl nofun nofun
    | x i =>
      have hr : en.x (fun i => H.a (.x i)) (H.a .hall) (fun n => if HL.t n = HL.t (s.many + 1) then t else if HL.t n = .pd (s.many + 1) then pd else H.a (.t n)) s.asked s.ends s.told s.base i = some o := h
      rw [en.cg (g := fun n => H.a (.t n)) (fun n hn => hat n (w.eb n hn).2) fun n hn => hat n (Nat.le_trans hn w.bs)] at hr
      exact keepS (.x i) o hr nofun nofun
    | row =>
      have hr : s.row.map (rowO _) = some o := h
      obtain ⟨r, h1, rfl⟩ := Option.map_eq_some_iff.mp hr
      have k := keepS .row (rowO H r) (by show s.row.map (rowO H) = _; rw [h1]; rfl) nofun nofun
      show S' (H.a .row) = _
      rw [k]
      unfold rowO
      congr 2
      refine List.map_congr_left fun n hn => ?_
      have := w.win n ((w.rnd r h1).2 n hn)
      show _ = D.ref (if HL.t n = HL.t (s.many + 1) then t else if HL.t n = .pd (s.many + 1) then pd else H.a (.t n))
      rw [hat n this.2]
    | t i =>
      have hr : (if 1 ≤ i ∧ i ≤ s.many + 1 then some (thingO CT _ _ i) else none) = some o := h
      split at hr
      · rename_i hi
        cases hr
        show S' (if HL.t i = HL.t (s.many + 1) then t else if HL.t i = .pd (s.many + 1) then pd else H.a (.t i)) = some (.ins CT (fset H.dt (s.many + 1) dt i) (thFs (fset s.form (s.many + 1) form i) (.int (i : Int)) (.int (fset s.cnt (s.many + 1) 0 i)) (.ref (if HL.pd i = HL.t (s.many + 1) then t else if HL.pd i = .pd (s.many + 1) then pd else H.a (.pd i))) (fset s.own (s.many + 1) own i) (.bl (decide (i ∈ s.asked))) (.bl (decide (i ∈ s.waits)))))
        by_cases z : i = s.many + 1
        · subst z
          rw [if_pos rfl, if_neg (by exact nofun), if_pos rfl, fset_same, fset_same, fset_same, fset_same, e1, ec, decide_eq_false hw, decide_eq_false ha]
        · rw [hat i (by omega), hap i (by omega), fset_ne z, fset_ne z, fset_ne z, fset_ne z]
          exact keepS (.t i) _ (hC_t hi.1 (by omega)) nofun nofun
      · cases hr
    | pd i =>
      have hr : (if 1 ≤ i ∧ i ≤ s.many + 1 then some (partsO _ (s.parts i)) else none) = some o := h
      split at hr
      · rename_i hi
        cases hr
        show S' (if HL.pd i = HL.t (s.many + 1) then t else if HL.pd i = .pd (s.many + 1) then pd else H.a (.pd i)) = some (.dct _)
        rw [hvd i]
        by_cases z : i = s.many + 1
        · subst z
          rw [if_neg (by exact nofun), if_pos rfl, e2, h0]
          rfl
        · rw [hap i (by omega)]
          exact keepS (.pd i) _ (hC_pd hi.1 (by omega)) nofun nofun
      · cases hr
  · have back : ∀ l, hC CT CH en { H with a := fun x => if x = .t (s.many + 1) then t else if x = .pd (s.many + 1) then pd else H.a x, dt := fset H.dt (s.many + 1) dt } { s with many := s.many + 1, cnt := fset s.cnt (s.many + 1) 0, form := fset s.form (s.many + 1) form, own := fset s.own (s.many + 1) own, there := s.there ++ [s.many + 1] } l ≠ none → l = .t (s.many + 1) ∨ l = .pd (s.many + 1) ∨ (hC CT CH en H s l ≠ none ∧ l ≠ .t (s.many + 1) ∧ l ≠ .pd (s.many + 1)) := fun l h => by
      by_cases z1 : l = .t (s.many + 1)
      · exact .inl z1
      · by_cases z2 : l = .pd (s.many + 1)
        · exact .inr (.inl z2)
        · refine .inr (.inr ⟨?_, z1, z2⟩)
          cases l with
          | hall => exact nofun
          | th => exact nofun
          | lf => exact nofun
          | x i => exact en.lv h
          | row =>
            have hr : s.row.map (rowO _) ≠ none := h
            show s.row.map (rowO H) ≠ none
            cases e : s.row with
            | none => rw [e] at hr; exact absurd rfl hr
            | some r => exact nofun
          | t i =>
            have hr : (if 1 ≤ i ∧ i ≤ s.many + 1 then some (thingO CT _ _ i) else none) ≠ none := h
            split at hr
            · rename_i hi
              rw [hC_t hi.1 (by have : i ≠ s.many + 1 := fun e => z1 (by rw [e]); omega)]
              exact nofun
            · exact absurd rfl hr
          | pd i =>
            have hr : (if 1 ≤ i ∧ i ≤ s.many + 1 then some (partsO _ (s.parts i)) else none) ≠ none := h
            split at hr
            · rename_i hi
              rw [hC_pd hi.1 (by have : i ≠ s.many + 1 := fun e => z2 (by rw [e]); omega)]
              exact nofun
            · exact absurd rfl hr
    have e' : (if l = HL.t (s.many + 1) then t else if l = .pd (s.many + 1) then pd else H.a l) = (if l' = HL.t (s.many + 1) then t else if l' = .pd (s.many + 1) then pd else H.a l') := e
    rcases back l h with rfl | rfl | ⟨g, g1, g2⟩ <;> rcases back l' h' with rfl | rfl | ⟨k, k1, k2⟩
    · rfl
    · rw [if_pos rfl, if_neg (by exact nofun), if_pos rfl] at e'; exact absurd e' ne
    · rw [if_pos rfl, if_neg k1, if_neg k2] at e'; exact absurd n1 (by rw [e']; exact R.live k)
    · rw [if_pos rfl, if_neg (by exact nofun), if_pos rfl] at e'; exact absurd e'.symm ne
    · rfl
    · rw [if_neg (by exact nofun), if_pos rfl, if_neg k1, if_neg k2] at e'; exact absurd n2 (by rw [e']; exact R.live k)
    · rw [if_pos rfl, if_neg g1, if_neg g2] at e'; exact absurd n1 (by rw [← e']; exact R.live g)
    · rw [if_neg g1, if_neg g2, if_neg (by exact nofun), if_pos rfl] at e'; exact absurd n2 (by rw [← e']; exact R.live g)
    · rw [if_neg g1, if_neg g2, if_neg k1, if_neg k2] at e'; exact R.inj g k e'
  · exact fr b (fun z => hb (by rw [z]; exact n1)) (fun z => hb (by rw [z]; exact n2)) (hl .hall nofun) (hl .th nofun)
  · by_cases z1 : b = H.a .hall
    · rw [z1, e3]; exact nofun
    · by_cases z2 : b = H.a .th
      · rw [z2, e4]; exact nofun
      · rw [fr b (fun z => hb (by rw [z]; exact n1)) (fun z => hb (by rw [z]; exact n2)) z1 z2]; exact hb
  · by_cases z1 : l = .t (s.many + 1)
    · refine .inr ?_
      show S (if l = HL.t (s.many + 1) then t else _) = none
      rw [if_pos z1]; exact n1
    · by_cases z2 : l = .pd (s.many + 1)
      · refine .inr ?_
        show S (if l = HL.t (s.many + 1) then t else if l = .pd (s.many + 1) then pd else H.a l) = none
        rw [if_neg z1, if_pos z2]; exact n2
      · refine .inl ⟨?_, ha' l z1 z2⟩
        cases l with
        | hall => exact nofun
        | th => exact nofun
        | lf => exact nofun
        | x i => exact en.lv h
        | row =>
          have hr : s.row.map (rowO _) ≠ none := h
          show s.row.map (rowO H) ≠ none
          cases e : s.row with
          | none => rw [e] at hr; exact absurd rfl hr
          | some r => exact nofun
        | t i =>
          have hr : (if 1 ≤ i ∧ i ≤ s.many + 1 then some (thingO CT _ _ i) else none) ≠ none := h
          split at hr
          · rename_i hi
            rw [hC_t hi.1 (by have : i ≠ s.many + 1 := fun e => z1 (by rw [e]); omega)]
            exact nofun
          · exact absurd rfl hr
        | pd i =>
          have hr : (if 1 ≤ i ∧ i ≤ s.many + 1 then some (partsO _ (s.parts i)) else none) ≠ none := h
          split at hr
          · rename_i hi
            rw [hC_pd hi.1 (by have : i ≠ s.many + 1 := fun e => z2 (by rw [e]); omega)]
            exact nofun
          · exact absurd rfl hr
  · cases e : hC CT CH en H s l with
    | none => exact absurd e h
    | some o => exact ha' l (live0 l o e).1 (live0 l o e).2
end
end HM

set_option Elab.async false
set_option linter.all false
set_option maxRecDepth 100000
/-! ### holds counted anew -/
namespace HM
open PySem L2 DL
def Vl.is (n : Nat) : Vl → Bool
  | .no _ => false
  | .th j => decide (j = n)
def pcnt (l : List (Key × Vl)) (n : Nat) : Nat := l.countP fun kv => kv.2.is n
def psum (p : Nat → List (Key × Vl)) (l : List Nat) (n : Nat) : Nat := (l.map fun k => pcnt (p k) n).sum
def cntF (s : Hs) (n : Nat) : Nat := s.outer.count n + psum s.parts s.there n + psum s.parts s.rest n
theorem psum_cons (p : Nat → List (Key × Vl)) (k : Nat) (l : List Nat) (n : Nat) : psum p (k :: l) n = pcnt (p k) n + psum p l n := rfl
theorem psum_app (p : Nat → List (Key × Vl)) (l r : List Nat) (n : Nat) : psum p (l ++ r) n = psum p l n + psum p r n := by unfold psum; rw [List.map_append, List.sum_append]
theorem psum_fset_no {p : Nat → List (Key × Vl)} {k n : Nat} {x : List (Key × Vl)} : ∀ {l : List Nat}, k ∉ l → psum (fset p k x) l n = psum p l n
  | [], _ => rfl
  | j :: l, h => by
    rw [psum_cons, psum_cons, fset_ne (fun z => h (by rw [z]; exact List.mem_cons_self ..)), psum_fset_no fun z => h (List.mem_cons_of_mem _ z)]
theorem psum_fset {p : Nat → List (Key × Vl)} {k n : Nat} {x : List (Key × Vl)} : ∀ {l : List Nat}, l.Nodup → k ∈ l → psum (fset p k x) l n + pcnt (p k) n = psum p l n + pcnt x n
  | [], _, h => by cases h
  | j :: l, nd, h => by
    obtain ⟨n1, n2⟩ := List.nodup_cons.mp nd
    rw [psum_cons, psum_cons]
    by_cases z : j = k
    · subst z
      rw [fset_same, psum_fset_no n1]
      omega
    · rw [fset_ne z]
      have := psum_fset (p := p) (n := n) (x := x) n2 ((List.mem_cons.mp h).resolve_left (Ne.symm z))
      omega
theorem psum_filter {p : Nat → List (Key × Vl)} {k n : Nat} : ∀ {l : List Nat}, l.Nodup → k ∈ l → psum p (l.filter fun i => decide (i ≠ k)) n + pcnt (p k) n = psum p l n
  | [], _, h => by cases h
  | j :: l, nd, h => by
    obtain ⟨n1, n2⟩ := List.nodup_cons.mp nd
    rw [List.filter_cons, psum_cons]
    by_cases z : j = k
    · subst z
      rw [if_neg (by simp)]
      have : (l.filter fun i => decide (i ≠ j)) = l := List.filter_eq_self.mpr fun i hi => by
        rw [decide_eq_true_iff]
        exact fun z => n1 (z ▸ hi)
      rw [this]
      omega
    · rw [if_pos (by simpa using z), psum_cons]
      have := psum_filter (p := p) (n := n) n2 ((List.mem_cons.mp h).resolve_left (Ne.symm z))
      omega
theorem filter_no {k : Nat} {l : List Nat} (h : k ∉ l) : (l.filter fun i => decide (i ≠ k)) = l := List.filter_eq_self.mpr fun i hi => by
  rw [decide_eq_true_iff]
  exact fun z => h (z ▸ hi)
/-- a pending hold -/
def one (v : Vl) (n : Nat) : Nat := if v.is n = true then 1 else 0
/-- all holds are counted, but for one of v that is taken away now -/
structure GoodP (s : Hs) (v : Vl) : Prop where
  cnt : ∀ n, s.cnt n = (cntF s n + one v n : Nat)
  rnd : s.rest.Nodup
  rt : ∀ n ∈ s.rest, n ∉ s.there
  rin : ∀ n ∈ s.rest, 1 ≤ n ∧ n ≤ s.many
  oin : ∀ n ∈ s.outer, n ≤ s.many
abbrev Good (s : Hs) : Prop := GoodP s (.no .non)
theorem Good.eq {s : Hs} (g : Good s) (n : Nat) : s.cnt n = (cntF s n : Nat) := g.cnt n
section
variable {s : Hs} {n : Nat} {v : Vl}
theorem one_th (n j : Nat) : one (.th n) j = if n = j then 1 else 0 := by
  unfold one Vl.is
  by_cases h : n = j <;> simp [h]
theorem pcnt_cons (kv : Key × Vl) (l : List (Key × Vl)) (n : Nat) : pcnt (kv :: l) n = pcnt l n + one kv.2 n := by
  unfold pcnt one
  rw [List.countP_cons]
theorem GoodP.dec (g : GoodP s (.th n)) : Good (s.dec n) := by
  refine ⟨fun j => ?_, g.rnd, g.rt, g.rin, g.oin⟩
  show fset s.cnt n (s.cnt n - 1) j = ((cntF s j + 0 : Nat) : Int)
  by_cases z : j = n
  · subst z
    rw [fset_same, g.cnt j, one_th, if_pos rfl]
    omega
  · rw [fset_ne z, g.cnt j, one_th, if_neg (Ne.symm z)]
theorem GoodP.loosed (g : GoodP s v) : Good (s.loosed v) := by
  cases v with
  | no d => exact ⟨g.cnt, g.rnd, g.rt, g.rin, g.oin⟩
  | th n =>
    have h := g.dec
    rw [loosed_th]
    split
    · exact ⟨h.cnt, h.rnd, h.rt, h.rin, h.oin⟩
    · exact h
/-- the parts of n change, by one hold -/
theorem Good.setP (g : Good s) (w : Wf s) {l : List (Key × Vl)} (hn : n ∈ s.there ∨ n ∈ s.rest) (v : Vl) (c : Nat → Int) (h : ∀ j, c j = s.cnt j + ((pcnt l j : Int) + (one v j : Int) - (pcnt (s.parts n) j : Int))) : GoodP { s with parts := fset s.parts n l, cnt := c } v := by
  refine ⟨fun j => ?_, g.rnd, g.rt, g.rin, g.oin⟩
  have e := g.eq j
  have key : cntF { s with parts := fset s.parts n l, cnt := c } j + pcnt (s.parts n) j = cntF s j + pcnt l j := by
    unfold cntF
    dsimp only
    rcases hn with hn | hn
    · have h1 : n ∉ s.rest := fun z => g.rt n z hn
      have h2 := psum_fset (p := s.parts) (n := j) (x := l) w.nd hn
      rw [psum_fset_no h1]
      omega
    · have h1 : n ∉ s.there := g.rt n hn
      have h2 := psum_fset (p := s.parts) (n := j) (x := l) g.rnd hn
      rw [psum_fset_no h1]
      omega
  show c j = _
  rw [h j, e]
  omega
theorem Good.part (g : Good s) (w : Wf s) {kv : Key × Vl} {l : List (Key × Vl)} (hn : n ∈ s.there ∨ n ∈ s.rest) (h : s.parts n = kv :: l) : GoodP { s with parts := fset s.parts n l } kv.2 :=
  g.setP w hn kv.2 s.cnt fun j => by rw [h, pcnt_cons]; omega
theorem loosed_rest (s : Hs) (v : Vl) : (s.loosed v).rest = s.rest := by
  cases v with
  | no d => rfl
  | th n => rw [loosed_th]; split <;> rfl
theorem Good.emptied : ∀ {l : List (Key × Vl)} {s : Hs}, Good s → Wf s → n ∈ s.rest → s.parts n = l → Good (s.emptied n l) ∧ (s.emptied n l).parts n = [] ∧ (s.emptied n l).rest = s.rest ∧ (s.emptied n l).there = s.there
  | [], s, g, w, hn, h => ⟨g, h, rfl, rfl⟩
  | kv :: l, s, g, w, hn, h => by
    have g1 := (g.part w (.inr hn) h).loosed
    have w1 := (w.part h).loosed kv.2
    obtain ⟨a, b, c, d⟩ := Good.emptied (l := l) g1 w1 (by rw [loosed_rest]; exact hn) (by rw [loosed_parts]; exact fset_same)
    exact ⟨a, b, by rw [show (s.emptied n (kv :: l)).rest = _ from c, loosed_rest], by rw [show (s.emptied n (kv :: l)).there = _ from d, loosed_there]⟩
theorem Good.gone (g : Good s) (w : Wf s) (hn : n ∈ s.there) : Good (s.gone n) := by
  have h1 : n ∉ s.rest := fun z => g.rt n z hn
  refine ⟨fun j => ?_, ?_, fun i hi => ?_, fun i hi => ?_, g.oin⟩
  · have e := g.eq j
    have h2 := psum_filter (p := s.parts) (n := j) w.nd hn
    show s.cnt j = _
    rw [e]
    have : cntF (s.gone n) j = cntF s j := by
      unfold cntF Hs.gone
      dsimp only
      rw [psum_app, psum_cons]
      have : psum s.parts [] j = 0 := rfl
      omega
    rw [this]
    rfl
  · exact List.nodup_append.mpr ⟨g.rnd, by simp, fun a ha b hb e => h1 (by rw [← List.mem_singleton.mp hb, ← e]; exact ha)⟩
  · show i ∉ s.there.filter _
    rcases List.mem_append.mp hi with hi | hi
    · exact fun z => g.rt i hi (List.mem_filter.mp z).1
    · rw [List.mem_singleton.mp hi]
      exact fun z => of_decide_eq_true (List.mem_filter.mp z).2 rfl
  · show 1 ≤ i ∧ i ≤ s.many
    rcases List.mem_append.mp hi with hi | hi
    · exact g.rin i hi
    · rw [List.mem_singleton.mp hi]; exact w.tin n hn
theorem Good.bare (g : Good s) (h : s.parts n = []) : Good (s.bare n) := by
  refine ⟨fun j => ?_, g.rnd.sublist List.filter_sublist, fun i hi => g.rt i (List.mem_filter.mp hi).1, fun i hi => g.rin i (List.mem_filter.mp hi).1, g.oin⟩
  have e := g.eq j
  show s.cnt j = _
  rw [e]
  have : cntF (s.bare n) j = cntF s j := by
    unfold cntF Hs.bare
    dsimp only
    by_cases hn : n ∈ s.rest
    · have h2 := psum_filter (p := s.parts) (n := j) g.rnd hn
      rw [h] at h2
      have : pcnt [] j = 0 := rfl
      omega
    · rw [filter_no hn]
  rw [this]
  rfl
theorem Good.up (g : Good s) (hn : n ≤ s.many) : Good (s.up n) := by
  refine ⟨fun j => ?_, g.rnd, g.rt, g.rin, fun i hi => ?_⟩
  · show fset s.cnt n (s.cnt n + 1) j = (((s.outer ++ [n]).count j + psum s.parts s.there j + psum s.parts s.rest j + 0 : Nat) : Int)
    have e := g.eq j
    unfold cntF at e
    by_cases z : j = n
    · subst z
      rw [fset_same, e, List.count_append, List.count_singleton_self]
      omega
    · rw [fset_ne z, e, List.count_append, List.count_eq_zero_of_not_mem (show j ∉ [n] by simpa using z)]
      omega
  · show i ≤ s.many
    rcases List.mem_append.mp hi with hi | hi
    · exact g.oin i hi
    · rw [List.mem_singleton.mp hi]; exact hn
theorem Good.down (g : Good s) (hn : n ∈ s.outer) : Good (s.down n) := by
  refine ⟨fun j => ?_, g.rnd, g.rt, g.rin, fun i hi => g.oin i (List.mem_of_mem_erase hi)⟩
  show fset s.cnt n (s.cnt n - 1) j = (((s.outer.erase n).count j + psum s.parts s.there j + psum s.parts s.rest j + 0 : Nat) : Int)
  have e := g.eq j
  unfold cntF at e
  by_cases z : j = n
  · subst z
    have := List.count_pos_iff.mpr hn
    rw [fset_same, e, List.count_erase_self]
    omega
  · rw [fset_ne z, e, List.count_erase_of_ne z]
    omega
theorem Good.unwait (g : Good s) : Good (s.unwait n) := ⟨g.cnt, g.rnd, g.rt, g.rin, g.oin⟩
theorem Good.nonneg (g : Good s) (n : Nat) : 0 ≤ s.cnt n := by rw [g.eq]; omega
/-- a thing made -/
theorem Good.made (g : Good s) (w : Wf s) (form own : D) : Good (s.made form own) := by
  have hp : ∀ i, pcnt (s.parts i) (s.many + 1) = 0 := fun i => by
    unfold pcnt
    rw [List.countP_eq_zero]
    intro kv hk
    have := w.pv i kv hk
    cases e : kv.2 with
    | no d => simp [Vl.is]
    | th j =>
      rw [e] at this
      unfold Vl.is
      have h2 : j ≤ s.many := this.2
      simp
      omega
  have hz : ∀ l, psum s.parts l (s.many + 1) = 0 := fun l => by
    induction l with
    | nil => rfl
    | cons k l ih => rw [psum_cons, hp, ih]
  refine ⟨fun j => ?_, g.rnd, fun i hi => ?_, fun i hi => ?_, fun i hi => ?_⟩
  · show fset s.cnt (s.many + 1) 0 j = ((s.outer.count j + psum s.parts (s.there ++ [s.many + 1]) j + psum s.parts s.rest j + 0 : Nat) : Int)
    rw [psum_app, psum_cons, w.pz _ (Nat.lt_succ_self _)]
    have hn : psum s.parts [] j = 0 := rfl
    have hn2 : pcnt [] j = 0 := rfl
    by_cases z : j = s.many + 1
    · subst z
      have h1 := hz s.there
      have h2 := hz s.rest
      rw [fset_same, List.count_eq_zero_of_not_mem (fun z => by have := g.oin _ z; omega)]
      omega
    · have e := g.eq j
      unfold cntF at e
      rw [fset_ne z, e]
      omega
  · show i ∉ s.there ++ [s.many + 1]
    intro z
    rcases List.mem_append.mp z with z | z
    · exact g.rt i hi z
    · have := g.rin i hi
      rw [List.mem_singleton.mp z] at this
      omega
  · have := g.rin i hi
    show 1 ≤ i ∧ i ≤ s.many + 1
    omega
  · have := g.oin i hi
    show i ≤ s.many + 1
    omega
theorem pcnt_gput {l : List (Key × Vl)} (hk : (l.map (·.1)).Nodup) (k : Key) (v : Vl) (j : Nat) : pcnt (gput l k v) j + one ((gval l k).getD (.no .non)) j = pcnt l j + one v j := by
  induction l with
  | nil =>
    show pcnt [(k, v)] j + one (.no .non) j = _
    rw [pcnt_cons]
    rfl
  | cons kv l ih =>
    rw [List.map_cons] at hk
    obtain ⟨h1, h2⟩ := List.nodup_cons.mp hk
    by_cases z : kv.1 = k
    · have e1 : gput (kv :: l) k v = (kv.1, v) :: l := by
        unfold gput
        rw [if_pos (by rw [List.any_cons]; simp [z]), List.map_cons, if_pos z]
        congr 1
        refine (List.map_congr_left fun x hx => ?_).trans (List.map_id _)
        have : x.1 ≠ k := fun y => h1 (List.mem_map.mpr ⟨x, hx, y.trans z.symm⟩)
        rw [if_neg this]
        rfl
      have e2 : gval (kv :: l) k = some kv.2 := by simp [gval, List.find?_cons, z]
      rw [e1, e2, pcnt_cons, pcnt_cons]
      show pcnt l j + one v j + one kv.2 j = _
      omega
    · have e2 : gval (kv :: l) k = gval l k := by simp [gval, List.find?_cons, z]
      have e1 : gput (kv :: l) k v = kv :: gput l k v := by
        unfold gput
        rw [List.any_cons]
        simp only [z, decide_false, Bool.false_or]
        split
        · rw [List.map_cons, if_neg z]
        · rfl
      rw [e1, e2, pcnt_cons, pcnt_cons]
      have := ih h2
      omega
theorem pcnt_gdrop {l : List (Key × Vl)} (hk : (l.map (·.1)).Nodup) {k : Key} {v : Vl} (h : gval l k = some v) (j : Nat) : pcnt (gdrop l k) j + one v j = pcnt l j := by
  induction l with
  | nil => cases h
  | cons kv l ih =>
    rw [List.map_cons] at hk
    obtain ⟨h1, h2⟩ := List.nodup_cons.mp hk
    by_cases z : kv.1 = k
    · have e2 : gval (kv :: l) k = some kv.2 := by simp [gval, List.find?_cons, z]
      rw [e2] at h
      cases h
      have e1 : gdrop (kv :: l) k = l := by
        unfold gdrop
        rw [List.filter_cons, if_neg (by simp [z]), List.filter_eq_self]
        intro x hx
        rw [decide_eq_true_iff]
        exact fun y => h1 (List.mem_map.mpr ⟨x, hx, y.trans z.symm⟩)
      rw [e1, pcnt_cons]
    · have e2 : gval (kv :: l) k = gval l k := by simp [gval, List.find?_cons, z]
      rw [e2] at h
      have e1 : gdrop (kv :: l) k = kv :: gdrop l k := by
        unfold gdrop
        rw [List.filter_cons, if_pos (by simp [z])]
      rw [e1, pcnt_cons, pcnt_cons]
      have := ih h2 h
      omega
theorem held_cnt (s : Hs) (v : Vl) (j : Nat) : (s.held v).cnt j = s.cnt j + (one v j : Int) := by
  cases v with
  | no d => show s.cnt j = s.cnt j + ((0 : Nat) : Int); omega
  | th n =>
    show fset s.cnt n (s.cnt n + 1) j = _
    rw [one_th]
    by_cases z : j = n
    · subst z; rw [fset_same, if_pos rfl]; omega
    · rw [fset_ne z, if_neg (Ne.symm z)]; omega
theorem Good.putP (g : Good s) (w : Wf s) (hn : n ∈ s.there) (k : Key) (v : Vl) : GoodP (s.putP n k v) (oldP s n k) := by
  have h := g.setP w (l := gput (s.parts n) k v) (.inl hn) (oldP s n k) (s.held v).cnt fun j => by
    have := pcnt_gput (w.key n) k v j
    rw [held_cnt]
    unfold oldP
    omega
  have e : s.putP n k v = { s with parts := fset s.parts n (gput (s.parts n) k v), cnt := (s.held v).cnt } := by
    unfold Hs.putP
    cases v <;> rfl
  rw [e]
  exact h
theorem Good.dropP (g : Good s) (w : Wf s) (hn : n ∈ s.there) {k : Key} (hv : gval (s.parts n) k = some v) : GoodP (s.dropP n k) v :=
  g.setP w (l := gdrop (s.parts n) k) (.inl hn) v s.cnt fun j => by
    have := pcnt_gdrop (w.key n) hv j
    omega
end
end HM

set_option Elab.async false
set_option linter.all false
set_option maxRecDepth 100000
/-! ### the law's own hall of lists in the store -/
namespace HM
open PySem L2 DL
inductive ML where
  | m | parts | rest | outer | mine | ends | left | asked | waits | plans | told | row | pl (n : Nat)
  deriving DecidableEq
structure Mx where
  plans : List (Key × D)
  ender : Bool
def vM : Vl → D
  | .no d => d
  | .th n => .tup [.str "t", .int (n : Int)]
def pM (kv : Key × Vl) : D := .tup [dK kv.1, vM kv.2]
def nD (l : List Nat) : List D := l.map fun n : Nat => .int (n : Int)
def rowM (M : ML → Addr) : Option (List Nat) → D
  | none => .non
  | some _ => .ref (M .row)
def mKvs (M : ML → Addr) (x : Mx) (many : Nat) (row : D) (lasts : Nat) : List (Key × D) := [(.inr "parts", .ref (M .parts)), (.inr "rest", .ref (M .rest)), (.inr "outer", .ref (M .outer)), (.inr "mine", .ref (M .mine)), (.inr "ends", .ref (M .ends)), (.inr "left", .ref (M .left)), (.inr "asked", .ref (M .asked)), (.inr "waits", .ref (M .waits)),
  (.inr "plans", .ref (M .plans)), (.inr "many", .int (many : Int)), (.inr "row", row), (.inr "lasts", .int (lasts : Int)), (.inr "told", .ref (M .told)), (.inr "ender", .bl x.ender)]
def plD (M : ML → Addr) (l : List Nat) : List (Key × D) := l.map fun n : Nat => ((.inl (n : Int), .ref (M (.pl n))) : Key × D)
def mC (M : ML → Addr) (x : Mx) (s : Hs) : ML → Option O
  | .m => some (.dct (mKvs M x s.many (rowM M s.row) s.lasts))
  | .parts => some (.dct (plD M s.there))
  | .rest => some (.dct (plD M s.rest))
  | .outer => some (.lst (nD s.outer))
  | .mine => some (.lst (nD s.mine))
  | .ends => some (.lst (nD s.ends))
  | .left => some (.lst (nD s.left))
  | .asked => some (.lst (nD s.asked))
  | .waits => some (.lst (nD s.waits))
  | .plans => some (.dct x.plans)
  | .told => some (.lst s.told)
  | .row => s.row.map fun l => .lst (nD l)
  | .pl n => if n ∈ s.there ∨ n ∈ s.rest then some (.lst ((s.parts n).map pM)) else none
abbrev MRep (M : ML → Addr) (x : Mx) (s : Hs) (S : Sto) : Prop := Rep M (mC M x s) S
abbrev MTr (M : ML → Addr) (x : Mx) (s : Hs) (S : Sto) (M' : ML → Addr) (x' : Mx) (s' : Hs) (S' : Sto) : Prop := Tr (fun l => l = ML.m) M (mC M x s) S M' (mC M' x' s') S'
section
variable {M M' M2 : ML → Addr} {x x' x2 : Mx} {s s' s2 : Hs} {S S' S2 : Sto} {n : Nat} {a b c : Nat} {r d : D}
theorem MTr.refl (R : MRep M x s S) : MTr M x s S M x s S := Rep.refl R
theorem MTr.trans (T : MTr M x s S M' x' s' S') (U : MTr M' x' s' S' M2 x2 s2 S2) : MTr M x s S M2 x2 s2 S2 := Tr.trans T U fun l hl _ => by subst hl; exact nofun
theorem MTr.m (T : MTr M x s S M' x' s' S') : M' .m = M .m := T.keep .m rfl nofun
theorem MTr.ghost (R : MRep M x s S) (h : mC M x s' = mC M x s) : MTr M x s S M x s' S := by
  show Tr _ M (mC M x s) S M (mC M x s') S
  rw [h]; exact Rep.refl R
theorem pl_live (h : n ∈ s.there ∨ n ∈ s.rest) : mC M x s (.pl n) = some (.lst ((s.parts n).map pM)) := if_pos h
theorem m_m (R : MRep M x s S) : S (M .m) = some (.dct (mKvs M x s.many (rowM M s.row) s.lasts)) := R.at_ (l := .m) rfl
theorem MTr.setAt (R : MRep M x s S) {l : ML} {o o' : O} (h : mC M x s l = some o) (h' : mC M x s' l = some o') (hne : ∀ l', l' ≠ l → mC M x s' l' = mC M x s l') : MTr M x s S M x s' (put S (M l) o') := Rep.set R h h' hne
theorem MTr.outer (R : MRep M x s S) (l : List Nat) (c : Nat → Int) : MTr M x s S M x { s with outer := l, cnt := c } (put S (M .outer) (.lst (nD l))) :=
  MTr.setAt R (l := .outer) rfl rfl fun l' hl => by cases l' <;> first | rfl | exact absurd rfl hl
theorem MTr.mine (R : MRep M x s S) (l : List Nat) : MTr M x s S M x { s with mine := l } (put S (M .mine) (.lst (nD l))) :=
  MTr.setAt R (l := .mine) rfl rfl fun l' hl => by cases l' <;> first | rfl | exact absurd rfl hl
theorem MTr.ends (R : MRep M x s S) (l : List Nat) : MTr M x s S M x { s with ends := l } (put S (M .ends) (.lst (nD l))) :=
  MTr.setAt R (l := .ends) rfl rfl fun l' hl => by cases l' <;> first | rfl | exact absurd rfl hl
theorem MTr.left (R : MRep M x s S) (l : List Nat) : MTr M x s S M x { s with left := l } (put S (M .left) (.lst (nD l))) :=
  MTr.setAt R (l := .left) rfl rfl fun l' hl => by cases l' <;> first | rfl | exact absurd rfl hl
theorem MTr.asked (R : MRep M x s S) (l : List Nat) : MTr M x s S M x { s with asked := l } (put S (M .asked) (.lst (nD l))) :=
  MTr.setAt R (l := .asked) rfl rfl fun l' hl => by cases l' <;> first | rfl | exact absurd rfl hl
theorem MTr.waits (R : MRep M x s S) (l : List Nat) : MTr M x s S M x { s with waits := l } (put S (M .waits) (.lst (nD l))) :=
  MTr.setAt R (l := .waits) rfl rfl fun l' hl => by cases l' <;> first | rfl | exact absurd rfl hl
theorem MTr.lasts (R : MRep M x s S) (c : Nat) : MTr M x s S M x { s with lasts := c } (put S (M .m) (.dct (mKvs M x s.many (rowM M s.row) c))) :=
  MTr.setAt R (l := .m) rfl rfl fun l' hl => by cases l' <;> first | rfl | exact absurd rfl hl
theorem MTr.setRow (R : MRep M x s S) {l0 : List Nat} (h : s.row = some l0) (l : List Nat) : MTr M x s S M x { s with row := some l } (put S (M .row) (.lst (nD l))) :=
  MTr.setAt R (l := .row) (o := .lst (nD l0)) (by show s.row.map _ = _; rw [h]; rfl) rfl fun l' hl => by
    cases l' with
    | row => exact absurd rfl hl
    | m => show some (O.dct (mKvs M x s.many _ s.lasts)) = some (O.dct (mKvs M x s.many (rowM M s.row) s.lasts)); rw [h]; rfl
    | _ => rfl
theorem MTr.pl (R : MRep M x s S) (hn : n ∈ s.there ∨ n ∈ s.rest) (l : List (Key × Vl)) (c : Nat → Int) : MTr M x s S M x { s with parts := fset s.parts n l, cnt := c } (put S (M (.pl n)) (.lst (l.map pM))) :=
  MTr.setAt R (l := .pl n) (pl_live hn) (by rw [pl_live (s := { s with parts := fset s.parts n l, cnt := c }) hn]; show some (O.lst ((fset s.parts n l n).map pM)) = _; rw [fset_same]) fun l' hl => by
    cases l' with
    | pl i =>
      have z : i ≠ n := fun e => hl (by rw [e])
      show (if i ∈ s.there ∨ i ∈ s.rest then some (O.lst ((fset s.parts n l i).map pM)) else none) = if i ∈ s.there ∨ i ∈ s.rest then some (O.lst ((s.parts i).map pM)) else none
      rw [fset_ne z]
    | _ => rfl
theorem MTr.noRow (R : MRep M x s S) : MTr M x s S M x { s with row := none } (put S (M .m) (.dct (mKvs M x s.many .non s.lasts))) := by
  have T1 : Tr (fun l => l = ML.m) M (mC M x s) S M (fun l => if l = .row then none else mC M x s l) S := Rep.sub R fun l o h => by
    by_cases z : l = .row
    · rw [if_pos z] at h; cases h
    · rw [if_neg z] at h; exact h
  refine T1.trans (T1.rep.set (l := .m) (o := .dct (mKvs M x s.many (rowM M s.row) s.lasts)) (by rw [if_neg (by exact nofun)]; rfl) rfl fun l' hl => ?_) (fun l hl h => by subst hl; exact nofun)
  cases l' with
  | m => exact absurd rfl hl
  | row => rfl
  | _ => rw [if_neg (by exact nofun)]; rfl
theorem MTr.begun (R : MRep M x s S) (h0 : s.row = none) {p : Addr} (hp : S p = none) (l : List Nat) :
    MTr M x s S (fun y => if y = .row then p else M y) x { s with row := some l } (put (put S p (.lst (nD l))) (M .m) (.dct (mKvs M x s.many (.ref p) s.lasts))) := by
  have T1 : Tr (fun l => l = ML.m) M (mC M x s) S (fun y => if y = .row then p else M y) (fun y => if y = .row then some (.lst (nD l)) else mC M x s y) (put S p (.lst (nD l))) := by
    refine Rep.new R (l := .row) hp (by show s.row.map _ = none; rw [h0]; rfl) (if_pos rfl) (fun l' h => ?_) (if_pos rfl) fun l' h => if_neg h
    rw [if_neg]
    intro z
    subst z
    exact h (by show s.row.map _ = none; rw [h0]; rfl)
  have T2 := T1.rep.set (pin := fun l => l = ML.m) (l := .m) (o := .dct (mKvs M x s.many (rowM M s.row) s.lasts)) (C' := mC (fun y => if y = .row then p else M y) x { s with row := some l }) (o' := .dct (mKvs M x s.many (.ref p) s.lasts)) rfl rfl fun l' hl => by
    cases l' with
    | m => exact absurd rfl hl
    | _ => rfl
  exact T1.trans T2 fun l hl h => by subst hl; exact nofun
theorem plD_upd {k : Nat} {p : Addr} {l : List Nat} (h : ∀ i ∈ l, i ≠ k) : plD (fun y => if y = .pl k then p else M y) l = plD M l := by
  unfold plD
  refine List.map_congr_left fun i hi => ?_
  show ((Sum.inl (i : Int), D.ref (if ML.pl i = ML.pl k then p else M (.pl i))) : Key × D) = _
  rw [if_neg (fun z => h i hi (by cases z; rfl))]
theorem plD_snoc (l : List Nat) (k : Nat) : plD M (l ++ [k]) = plD M l ++ [((.inl (k : Int) : Key), .ref (M (.pl k)))] := by
  unfold plD
  rw [List.map_append]
  rfl
/-- a thing goes from parts to rest -/
theorem MTr.gone (R : MRep M x s S) (hn : n ∈ s.there) : MTr M x s S M x { s with there := s.there.filter (fun i => decide (i ≠ n)), rest := s.rest ++ [n] }
    (put (put S (M .parts) (.dct (plD M (s.there.filter fun i => decide (i ≠ n))))) (M .rest) (.dct (plD M (s.rest ++ [n])))) := by
  have T1 : Tr (fun l => l = ML.m) M (mC M x s) S M (fun l => if l = .parts then some (.dct (plD M (s.there.filter fun i => decide (i ≠ n)))) else mC M x s l) (put S (M .parts) (.dct (plD M (s.there.filter fun i => decide (i ≠ n))))) :=
    Rep.set R (l := .parts) rfl (if_pos rfl) fun l' hl => if_neg hl
  refine T1.trans (T1.rep.set (l := .rest) (o := .dct (plD M s.rest)) rfl rfl fun l' hl => ?_) (fun l hl h => by subst hl; exact nofun)
  cases l' with
  | rest => exact absurd rfl hl
  | parts => rfl
  | pl i =>
    show (if i ∈ s.there.filter (fun i => decide (i ≠ n)) ∨ i ∈ s.rest ++ [n] then some (O.lst ((s.parts i).map pM)) else none) = if i ∈ s.there ∨ i ∈ s.rest then some (O.lst ((s.parts i).map pM)) else none
    have : (i ∈ s.there.filter (fun i => decide (i ≠ n)) ∨ i ∈ s.rest ++ [n]) ↔ (i ∈ s.there ∨ i ∈ s.rest) := by
      rw [List.mem_filter, List.mem_append, List.mem_singleton, decide_eq_true_iff]
      constructor
      · rintro (h | h | h)
        · exact .inl h.1
        · exact .inr h
        · exact .inl (h ▸ hn)
      · rintro (h | h)
        · by_cases z : i = n
          · exact .inr (.inr z)
          · exact .inl ⟨h, z⟩
        · exact .inr (.inl h)
    simp only [this]
  | _ => rfl
/-- its rest is bare -/
theorem MTr.bare (R : MRep M x s S) : MTr M x s S M x (s.bare n) (put S (M .rest) (.dct (plD M (s.rest.filter fun i => decide (i ≠ n))))) := by
  have T1 : Tr (fun l => l = ML.m) M (mC M x s) S M (fun l => if l = .rest then some (.dct (plD M (s.rest.filter fun i => decide (i ≠ n)))) else mC M x s l) (put S (M .rest) (.dct (plD M (s.rest.filter fun i => decide (i ≠ n))))) :=
    Rep.set R (l := .rest) rfl (if_pos rfl) fun l' hl => if_neg hl
  refine T1.trans (T1.rep.sub fun l o h => ?_) (fun l hl h => by subst hl; exact nofun)
  cases l with
  | pl i =>
    have h' : (if i ∈ s.there ∨ i ∈ s.rest.filter (fun i => decide (i ≠ n)) then some (O.lst ((s.parts i).map pM)) else none) = some o := h
    split at h'
    · rename_i hi
      show (if i ∈ s.there ∨ i ∈ s.rest then some (O.lst ((s.parts i).map pM)) else none) = some o
      rw [if_pos (hi.elim .inl fun z => .inr (List.mem_filter.mp z).1)]
      exact h'
    · cases h'
  | rest => exact h
  | _ => exact h
/-- a thing more -/
theorem MTr.made (R : MRep M x s S) (w : Wf s) (g : Good s) {p : Addr} (form own : D) (hp : S p = none) :
    MTr M x s S (fun y => if y = .pl (s.many + 1) then p else M y) x (s.made form own) (put (put (put S (M .m) (.dct (mKvs M x (s.many + 1) (rowM M s.row) s.lasts))) p (.lst [])) (M .parts) (.dct (plD M s.there ++ [((.inl ((s.many + 1 : Nat) : Int) : Key), .ref p)]))) := by
  have T1 : Tr (fun l => l = ML.m) M (mC M x s) S M (fun l => if l = .m then some (.dct (mKvs M x (s.many + 1) (rowM M s.row) s.lasts)) else mC M x s l) (put S (M .m) (.dct (mKvs M x (s.many + 1) (rowM M s.row) s.lasts))) :=
    Rep.set R (l := .m) rfl (if_pos rfl) fun l' hl => if_neg hl
  have dead : mC M x s (.pl (s.many + 1)) = none := if_neg fun z => z.elim (fun h => by have := w.tin _ h; omega) fun h => by have := g.rin _ h; omega
  have hp1 : put S (M .m) (.dct (mKvs M x (s.many + 1) (rowM M s.row) s.lasts)) p = none := by rw [put_ne (fun z => by have := m_m R; rw [← z, hp] at this; cases this)]; exact hp
  have T2 : Tr (fun l => l = ML.m) M (fun l => if l = .m then some (.dct (mKvs M x (s.many + 1) (rowM M s.row) s.lasts)) else mC M x s l) (put S (M .m) (.dct (mKvs M x (s.many + 1) (rowM M s.row) s.lasts))) (fun y => if y = .pl (s.many + 1) then p else M y)
      (fun l => if l = .pl (s.many + 1) then some (.lst []) else if l = .m then some (.dct (mKvs M x (s.many + 1) (rowM M s.row) s.lasts)) else mC M x s l) (put (put S (M .m) (.dct (mKvs M x (s.many + 1) (rowM M s.row) s.lasts))) p (.lst [])) := by
    refine T1.rep.new (l := .pl (s.many + 1)) hp1 (by rw [if_neg (by exact nofun)]; exact dead) (if_pos rfl) (fun l' h => ?_) (if_pos rfl) fun l' h => if_neg h
    rw [if_neg]
    intro z
    subst z
    exact h (by rw [if_neg (by exact nofun)]; exact dead)
  refine (T1.trans T2 fun l hl h => by subst hl; exact nofun).trans (T2.rep.set (l := .parts) (o := .dct (plD M s.there)) rfl ?_ fun l' hl => ?_) (fun l hl h => by subst hl; exact nofun)
  · show some (O.dct (plD _ (s.there ++ [s.many + 1]))) = _
    rw [plD_snoc, plD_upd fun i hi => by have := w.tin i hi; omega]
    show some (O.dct (plD M s.there ++ [((.inl ((s.many + 1 : Nat) : Int) : Key), .ref (if ML.pl (s.many + 1) = ML.pl (s.many + 1) then p else _))])) = _
    rw [if_pos rfl]
  · cases l' with
    | parts => exact absurd rfl hl
    | rest =>
      show some (O.dct (plD _ s.rest)) = some (O.dct (plD M s.rest))
      rw [plD_upd fun i hi => by have := g.rin i hi; omega]
    | pl i =>
      show (if i ∈ s.there ++ [s.many + 1] ∨ i ∈ s.rest then some (O.lst ((s.parts i).map pM)) else none) = if ML.pl i = ML.pl (s.many + 1) then some (.lst []) else if ML.pl i = ML.m then _ else (if i ∈ s.there ∨ i ∈ s.rest then some (O.lst ((s.parts i).map pM)) else none)
      by_cases z : i = s.many + 1
      · subst z
        rw [if_pos (.inl (by simp)), if_pos rfl, w.pz _ (Nat.lt_succ_self _)]
        rfl
      · rw [if_neg (show ¬ ML.pl i = ML.pl (s.many + 1) from fun y => z (by cases y; rfl)), if_neg (show ¬ ML.pl i = ML.m from nofun)]
        have : (i ∈ s.there ++ [s.many + 1] ∨ i ∈ s.rest) ↔ (i ∈ s.there ∨ i ∈ s.rest) := by simp [z]
        simp only [this]
    | m =>
      show some (O.dct (mKvs _ x (s.many + 1) (rowM _ s.row) s.lasts)) = some (O.dct (mKvs M x (s.many + 1) (rowM M s.row) s.lasts))
      cases s.row <;> rfl
    | _ => rfl
end
end HM

set_option Elab.async false
set_option linter.all false
set_option maxRecDepth 100000
/-! ### halls without an ender: the row comes to its end; what it leaves as it is -/
namespace HM
open PySem L2 DL
def RowZ (s : Hs) : Prop := ∀ l, s.row = some l → ∀ n ∈ l, n ∈ s.there ∧ s.cnt n = 0
theorem RowZ.loosed {s : Hs} {v : Vl} (z : RowZ s) (g : GoodP s v) : RowZ (s.loosed v) := by
  cases v with
  | no d => exact z
  | th j =>
    have hd : RowZ (s.dec j) := fun l hl n hn => by
      obtain ⟨h1, h2⟩ := z l hl n hn
      refine ⟨h1, ?_⟩
      show fset s.cnt j (s.cnt j - 1) n = 0
      rw [fset_ne, h2]
      intro e
      subst e
      have := g.cnt n
      rw [h2, one_th, if_pos rfl] at this
      omega
    rw [loosed_th]
    split
    · rename_i he
      obtain ⟨e1, e2, e3⟩ := enqs_iff.mp he
      intro l hl n hn
      obtain ⟨l0, h0, rfl⟩ := Option.map_eq_some_iff.mp (show s.row.map (· ++ [j]) = some l from hl)
      rcases List.mem_append.mp hn with hn | hn
      · exact hd l0 h0 n hn
      · rw [List.mem_singleton.mp hn]; exact ⟨e2, e1⟩
    · exact hd
theorem RowZ.emptied {n : Nat} : ∀ {l : List (Key × Vl)} {s : Hs}, RowZ s → Good s → Wf s → n ∈ s.rest → s.parts n = l → RowZ (s.emptied n l)
  | [], s, z, _, _, _, _ => z
  | kv :: l, s, z, g, w, hn, h => by
    have g1 := g.part w (.inr hn) h
    have z1 : RowZ { s with parts := fset s.parts n l } := z
    exact RowZ.emptied (l := l) (z1.loosed g1) g1.loosed ((w.part h).loosed _) (by rw [loosed_rest]; exact hn) (by rw [loosed_parts]; exact fset_same)
/-- what a row leaves as it is -/
structure Kp (s s' : Hs) : Prop where
  mine : s'.mine = s.mine
  out : ∀ j, s'.outer.count j = s.outer.count j
  len : s'.outer.length = s.outer.length
  many : s'.many = s.many
  shr : ∀ n, (s'.parts n).Sublist (s.parts n)
  asked : s'.asked = s.asked
  ends : s'.ends = s.ends
  told : s'.told = s.told
  lasts : s'.lasts = s.lasts
  form : s'.form = s.form
  own : s'.own = s.own
  there : ∀ n, n ∈ s'.there → n ∈ s.there
theorem Kp.refl (s : Hs) : Kp s s := ⟨rfl, fun _ => rfl, rfl, rfl, fun _ => List.Sublist.refl _, rfl, rfl, rfl, rfl, rfl, rfl, fun _ h => h⟩
theorem Kp.trans {s s1 s2 : Hs} (a : Kp s s1) (b : Kp s1 s2) : Kp s s2 := ⟨b.mine.trans a.mine, fun j => (b.out j).trans (a.out j), b.len.trans a.len, b.many.trans a.many, fun n => (b.shr n).trans (a.shr n), b.asked.trans a.asked, b.ends.trans a.ends, b.told.trans a.told, b.lasts.trans a.lasts, b.form.trans a.form, b.own.trans a.own, fun n h => a.there n (b.there n h)⟩
theorem Kp.loosed (s : Hs) (v : Vl) : Kp s (s.loosed v) := by
  cases v with
  | no d => exact Kp.refl s
  | th j =>
    rw [loosed_th]
    split
    · exact ⟨rfl, fun _ => rfl, rfl, rfl, fun _ => List.Sublist.refl _, rfl, rfl, rfl, rfl, rfl, rfl, fun _ h => h⟩
    · exact ⟨rfl, fun _ => rfl, rfl, rfl, fun _ => List.Sublist.refl _, rfl, rfl, rfl, rfl, rfl, rfl, fun _ h => h⟩
theorem Kp.emptied {n : Nat} : ∀ {l : List (Key × Vl)} {s : Hs}, s.parts n = l → Kp s (s.emptied n l)
  | [], s, _ => Kp.refl s
  | kv :: l, s, h => by
    have k1 : Kp s { s with parts := fset s.parts n l } := ⟨rfl, fun _ => rfl, rfl, rfl, fun i => by
      show (fset s.parts n l i).Sublist _
      by_cases z : i = n
      · subst z; rw [fset_same, h]; exact List.sublist_cons_self ..
      · rw [fset_ne z]; exact List.Sublist.refl _, rfl, rfl, rfl, rfl, rfl, rfl, fun _ h => h⟩
    exact (k1.trans (Kp.loosed _ kv.2)).trans (Kp.emptied (l := l) (by rw [loosed_parts]; exact fset_same))
theorem emptied_there {n : Nat} : ∀ (l : List (Key × Vl)) (s : Hs), (s.emptied n l).there = s.there
  | [], s => rfl
  | kv :: l, s => by
    show ((({ s with parts := fset s.parts n l } : Hs).loosed kv.2).emptied n l).there = _
    rw [emptied_there l, loosed_there]
end HM

set_option Elab.async false
set_option linter.all false
set_option maxRecDepth 100000
namespace K
open PySem L2 Evl EX DL
def top (i : Nat) : Stmt := PySem.Challenge.pw_snakehall_k29_rings.main.body.getD i (.Pass ⟨0, 0, 0, 0⟩)
abbrev s__law_mixed : Stmt := top 13
abbrev N__law_mixed : List Str := ["_law_number", "_law_k", "_law_once", "_law_twice"]
theorem sc__law_mixed : FnScope N__law_mixed ["_law_number", "_law_k"] (defScope s__law_mixed) := ⟨rfl, rfl, rfl, by decide +kernel, rfl, by decide +kernel, by decide +kernel⟩
abbrev s__law_well : Stmt := top 14
abbrev N__law_well : List Str := ["_law_script", "_law_first", "_law_cells"]
theorem sc__law_well : FnScope N__law_well ["_law_script", "_law_first"] (defScope s__law_well) := ⟨rfl, rfl, rfl, by decide +kernel, rfl, by decide +kernel, by decide +kernel⟩
abbrev s__law_dig : Stmt := top 15
abbrev N__law_dig : List Str := ["_law_well_here", "_law_most", "_law_number"]
theorem sc__law_dig : FnScope N__law_dig ["_law_well_here", "_law_most"] (defScope s__law_dig) := ⟨rfl, rfl, rfl, by decide +kernel, rfl, by decide +kernel, by decide +kernel⟩
structure TxtW (mg : Str → Option Value) : Prop where
  len : mg "len" = none
  abs : mg "abs" = none
section
variable {P : Program} {w : World} {K : PySem.W.Frag} {mg : Str → Option Value} {base : Heap}
local macro_rules | `(tactic| walk_at "dl") => `(tactic| try simp only [↓x_forS, ↓x_diSL, ↓x_diKeys, ↓x_lock, ↓x_dictP, ↓x_fld, ↓x_fldS, ↓x_fldA, ↓x_meth, ↓x_make, ↓x_dget, ↓x_din, ↓x_dget1, ↓x_dget2, ↓x_dpop, ↓x_dput, ↓x_listD, ↓x_sortDI, ↓x_lenD, ↓x_isiC, x_icS, x_icI, x_icB, x_icN, x_ioS, x_ioI, x_ioB, x_ioN, ↓x_gSub, ↓x_sortDL, ↓x_eqO, ↓x_ninA, x_catN, x_isBB, x_isBN, x_isBI, x_isBS, x_isBR, ↓x_seq, ↓x_nx, ↓x_pass, ↓x_brk, ↓x_cnt, ↓x_drop, ↓x_ret, ↓x_retN, ↓x_ifS, ↓x_set, ↓x_asg, ↓x_gN, ↓x_gT, ↓x_gsC, ↓x_gsN, ↓x_var, x_rdv, ↓x_c, ↓x_op, ↓x_test, x_tst, ↓x_and, ↓x_or, ↓x_not, ↓x_andV, ↓x_orV, ↓x_notV, x_tstV, ↓x_ifE, x_true, x_false, ↓x_nil, ↓x_cons, ↓x_tup, ↓x_lst, ↓x_new, ↓x_newD, ↓x_call, ↓x_cb, x_oI, x_oIc, x_oS, x_addS, x_isN, x_notN, x_eqI, x_eqS, x_eqIS, x_eqSI, x_eqNS, x_neI, x_neS, x_neB, x_eqB, x_few, x_need, ↓x_ix, x_lenS, x_ixL0, x_ixT0, x_ixT1, x_ixT2, x_ixT3, x_ixT4, x_lenL, x_lenT, x_lenC, x_listL, x_listT, x_tupL, x_tupT, x_strI, x_strS, x_int1, x_intB, x_I1, x_I2, x_cat, x_catT, ↓x_split, ↓x_for, ↓x_cut, ↓x_lc, ↓x_whl, ↓x_diL, ↓x_diT, ↓x_diS, x_itL, x_itC, x_itT, x_itS, ↓x_diR1, ↓x_diR2, ↓x_diE, x_enmL, x_enmC, ↓x_gcN, ↓x_gcT, ↓x_yes, ↓x_ml, ↓x_ms, x_strq, x_ss, x_ssc, x_ssi, ↓x_join, ↓x_aug, x_st2I, ↓x_sl, ↓x_noP, ↓x_part, x_intq, x_slL, x_slC, x_slS, ↓x_in, x_inT, x_inL, x_ninT, x_ninL, x_inN, x_inSS, x_inSI, x_inIS, x_inII, ↓x_sg, x_sgS, x_nsgS, ↓x_eqD, ↓x_inDD, x_mulS, ↓x_isi, x_isiS, x_isiI, x_isiB, x_isiN, x_isiL, x_isiT, ↓x_isTT, x_itI, x_itStr, x_itN, x_itB, x_itLst, x_itTup, ↓x_any, ↓x_all, ↓x_sum, ↓x_srtI, ↓x_srtS, ↓x_intS, ↓x_lenRf, ↓x_tupRf, ↓x_frz', x_flS, x_flI, x_flN, x_flB, x_cs_bool, x_isB_NoneType_bool, x_isB_bool_bool, x_isB_int_bool, x_isB_str_bool, x_isB_list_bool, x_isB_tuple_bool, x_isB_dict_bool, x_cs_int, x_isB_NoneType_int, x_isB_bool_int, x_isB_int_int, x_isB_str_int, x_isB_list_int, x_isB_tuple_int, x_isB_dict_int, x_cs_str, x_isB_NoneType_str, x_isB_bool_str, x_isB_int_str, x_isB_str_str, x_isB_list_str, x_isB_tuple_str, x_isB_dict_str, x_cs_list, x_isB_NoneType_list, x_isB_bool_list, x_isB_int_list, x_isB_str_list, x_isB_list_list, x_isB_tuple_list, x_isB_dict_list, x_cs_tuple, x_isB_NoneType_tuple, x_isB_bool_tuple, x_isB_int_tuple, x_isB_str_tuple, x_isB_list_tuple, x_isB_tuple_tuple, x_isB_dict_tuple, x_cs_dict, x_isB_NoneType_dict, x_isB_bool_dict, x_isB_int_dict, x_isB_str_dict, x_isB_list_dict, x_isB_tuple_dict, x_isB_dict_dict, List.all_cons, List.all_nil, Bool.and_self, Bool.or_false, Bool.or_true, Bool.false_or, Bool.true_or, wipeD, setD, DL.isNon, List.set_cons_zero, List.set_cons_succ, List.getElem?_cons_zero, List.getElem?_cons_succ, List.length_cons, List.length_nil, Nat.zero_add, List.cons_append, List.nil_append, decide_true, decide_false, Bool.not_true, Bool.not_false, true_and, and_true, startD, List.map_cons, List.map_nil, Nat.reduceSub, Nat.reduceLeDiff, Nat.zero_le, Int.reduceLT, Int.reduceLE, and_self, Nat.reduceAdd, List.replicate])
def dMixed : SpD := fun ds S k _ => ∃ n i : Int, ds = [.int n, .int i] ∧ ∀ r : Int, 0 ≤ r → r < 2147483629 → k (.int r) S
theorem ok_mixed {fa : Addr} {fd : FuncData} (F : Fun K "_law_mixed" "_law_mixed" s__law_mixed fa fd) : FnOk P w K mg base CX0 1 fa fd ["_law_number", "_law_k"] (lSp K dMixed) := by
  refine dok F sc__law_mixed (fun ds S q qx ⟨x, b, e, _⟩ => by rw [e]; rfl) ⟨_, fun cdv A outer s H E hr => dss_cons (ds_set (i := 2) sc__law_mixed.nd rfl (Or.inl rfl) (de_op op_mod si_mod (de_op op_mul si_mul (de_op op_add si_add (de_op op_add si_add (de_op op_mod si_mod (de_var 0) (de_int)) (de_op op_mul si_mul (de_int) (de_var 1))) (de_int)) (de_int)) (de_int)))
      (dss_cons (ds_set (i := 3) sc__law_mixed.nd rfl (Or.inl rfl) (de_op op_mod si_mod (de_op op_mul si_mul (de_var 2) (de_op op_add si_add (de_op op_add si_add (de_op op_mod si_mod (de_var 2) (de_int)) (de_var 1)) (de_int))) (de_int)))
      (dss_one (ds_ret (de_op op_mod si_mod (de_op op_add si_add (de_op op_mul si_mul (de_var 3) (de_int)) (de_var 2)) (de_int))))), fun ds S q qx ⟨n, i, hd, hq⟩ => ?_⟩
  subst hd
  walk_at "dl"
  refine needOf (.inl (by decide)) ?_
  walk_at "dl"
  refine needOf (.inr (by decide)) ?_
  walk_at "dl"
  generalize ho : ((n % 1000000007 + 7 * i + 1) * 48271) % 2147483647 = once
  have h0 : 0 ≤ once := by rw [← ho]; exact Int.emod_nonneg _ (by decide)
  have h1 : once < 2147483647 := by rw [← ho]; exact Int.emod_lt_of_pos _ (by decide)
  refine needOf (.inl ⟨by omega, by omega⟩) ?_
  walk_at "dl"
  refine needOf (.inr (by decide)) ?_
  walk_at "dl"
  exact hq _ (Int.emod_nonneg _ (by decide)) (Int.emod_lt_of_pos _ (by decide))
/-- a well -/
def Well (S : Sto) (w : Addr) : Prop := ∃ (a : Bool) (b c d : Int) (cs : List Int), S w = some (.lst [.bl a, .int b, .int c, .int d, .list (cs.map D.int)]) ∧ 0 < cs.length ∧ cs.length ≤ 100 ∧ 0 ≤ b ∧ 0 ≤ c ∧ 0 ≤ d
def dWell : SpD := fun ds S k _ => ∃ (ns : List Int) (i : Int), ds = [.scr (ns.map D.int), .int i] ∧ ns.length ≤ 63 ∧ ∀ p S', S p = none → Well S' p → (∀ x, x ≠ p → S' x = S x) → k (.ref p) S'
theorem ok_well {fa : Addr} {fd : FuncData} (F : Fun K "_law_well" "_law_well" s__law_well fa fd) (T : TxtW mg) : FnOk P w K mg base CX0 1 fa fd ["_law_script", "_law_first"] (lSp K dWell) := by
  refine dok F sc__law_well (fun ds S q qx ⟨x, b, e, _⟩ => by rw [e]; rfl) ⟨_, fun cdv A outer s H E hr => dss_cons (ds_set (i := 2) sc__law_well.nd rfl (Or.inl rfl) (de_op op_cat si_cat (de_slice (slL (K := K)) si_slL (de_var 0) (do_some (de_var 1)) do_none) (de_lst (da_cons (de_int) da_nil))))
      (dss_one (ds_ret (de_new (da_cons (de_cmp op_lt si_lt (de_callB call_abs si_abs (by rfl) T.abs (by decide +kernel) (da_cons (de_ix ix_seq (si_ix rfl) (de_var 2) (de_int) (fun _ _ => rfl)) da_nil)) (de_op op_pow si_pow (de_int) (de_int)) (nomark _)) (da_cons (de_int) (da_cons (de_callB call_abs si_abs (by rfl) T.abs (by decide +kernel) (da_cons (de_ix ix_seq (si_ix rfl) (de_var 2) (de_int) (fun _ _ => rfl)) da_nil)) (da_cons (de_int) (da_cons (de_var 2) da_nil)))))))), fun ds S q qx ⟨ns, i, hd, hl, hq⟩ => ?_⟩
  subst hd
  walk_at "dl"
  have hlen : (cutD (ns.map D.int) (some i) none).length ≤ 63 := by
    unfold cutD
    rw [List.length_take, List.length_drop, List.length_map]
    omega
  refine fewOf (by omega) ?_
  obtain ⟨cs, hcs⟩ : ∃ cs : List Int, cutD (ns.map D.int) (some i) none ++ [D.int 0] = cs.map D.int := ⟨((ns.drop (HT.sIx ns.length 0 (some i))).take (HT.sIx ns.length ns.length none - HT.sIx ns.length 0 (some i))) ++ [0], by
    unfold cutD
    rw [List.length_map, List.map_append, List.map_take, List.map_drop]
    rfl⟩
  have hcl : cs.length = (cutD (ns.map D.int) (some i) none).length + 1 := by
    have := congrArg List.length hcs
    rw [List.length_append, List.length_map] at this
    exact this.symm
  rw [hcs]
  obtain ⟨c, cs', rfl⟩ : ∃ c cs', cs = c :: cs' := by
    cases cs with
    | nil => simp at hcl
    | cons c cs' => exact ⟨c, cs', rfl⟩
  walk_at "dl"
  refine needOf ⟨by decide, by decide, by decide⟩ ?_
  walk_at "dl"
  refine freshOf fun p hp => ?_
  refine hq p _ hp ⟨_, _, _, _, c :: cs', put_same, by simp, by rw [hcl]; omega, by decide, ?_, by decide⟩ fun x hx => put_ne hx
  split <;> omega
def dDig : SpD := fun ds S k _ => ∃ (w : Addr) (n : Int), ds = [.ref w, .int n] ∧ Well S w ∧ 0 < n ∧ n < 1073741824 ∧ ∀ (r : Nat) S', (r : Int) < n → Well S' w → (∀ x, x ≠ w → S' x = S x) → k (.int (r : Int)) S'
theorem ok_dig {fa : Addr} {fd : FuncData} (F : Fun K "_law_dig" "_law_dig" s__law_dig fa fd) (T : TxtW mg) (G__law_mixed : DefD P w K mg base 1 "_law_mixed" ["_law_number", "_law_k"] dMixed) : FnOk P w K mg base CX0 2 fa fd ["_law_well_here", "_law_most"] (lSp K dDig) := by
  refine dok F sc__law_dig (fun ds S q qx ⟨x, b, e, _⟩ => by rw [e]; rfl) ⟨_, fun cdv A outer s H E hr => dss_cons (ds_asg (de_op op_add si_add (de_ix ix_seq (si_ix rfl) (de_var 0) (de_int) (fun _ _ => rfl)) (de_int)) (dg_sub (de_var 0) (de_int)))
      (dss_cons (ds_if (dt_val (de_ix ix_seq (si_ix rfl) (de_var 0) (de_int) (fun _ _ => rfl)))
        (dss_one (ds_ret (de_op op_mod si_mod (de_call G__law_mixed (hr.mono (by decide)) (by rfl) (da_cons (de_ix ix_seq (si_ix rfl) (de_ix ix_seq (si_ix rfl) (de_var 0) (de_int) (fun _ _ => rfl)) (de_op op_mod si_mod (de_ix ix_seq (si_ix rfl) (de_var 0) (de_int) (fun _ _ => rfl)) (de_callB call_len (si_len rfl) (by rfl) T.len (by decide +kernel) (da_cons (de_ix ix_seq (si_ix rfl) (de_var 0) (de_int) (fun _ _ => rfl)) da_nil))) (fun _ _ => rfl)) (da_cons (de_ix ix_seq (si_ix rfl) (de_var 0) (de_int) (fun _ _ => rfl)) da_nil))) (de_var 1))))
        (dss_nil))
      (dss_cons (ds_set (i := 2) sc__law_dig.nd rfl (Or.inl rfl) (de_op op_mod si_mod (de_ix ix_seq (si_ix rfl) (de_var 0) (de_int) (fun _ _ => rfl)) (de_var 1)))
      (dss_cons (ds_asg (de_op op_fdiv si_fdiv (de_ix ix_seq (si_ix rfl) (de_var 0) (de_int) (fun _ _ => rfl)) (de_var 1)) (dg_sub (de_var 0) (de_int)))
      (dss_cons (ds_if (PW.pt (dw_and (dt_cmp op_eq si_eq (de_ix ix_seq (si_ix rfl) (de_var 0) (de_int) (fun _ _ => rfl)) (de_int) (nomark _)) (dw_and1 (dt_cmp op_lt si_lt (de_ix ix_seq (si_ix rfl) (de_var 0) (de_int) (fun _ _ => rfl)) (de_callB call_len (si_len rfl) (by rfl) T.len (by decide +kernel) (da_cons (de_ix ix_seq (si_ix rfl) (de_var 0) (de_int) (fun _ _ => rfl)) da_nil)) (nomark _)))))
        (dss_cons (ds_asg (de_callB call_abs si_abs (by rfl) T.abs (by decide +kernel) (da_cons (de_ix ix_seq (si_ix rfl) (de_ix ix_seq (si_ix rfl) (de_var 0) (de_int) (fun _ _ => rfl)) (de_ix ix_seq (si_ix rfl) (de_var 0) (de_int) (fun _ _ => rfl)) (fun _ _ => rfl)) da_nil)) (dg_sub (de_var 0) (de_int)))
        (dss_one (ds_asg (de_op op_add si_add (de_ix ix_seq (si_ix rfl) (de_var 0) (de_int) (fun _ _ => rfl)) (de_int)) (dg_sub (de_var 0) (de_int)))))
        (dss_nil))
      (dss_one (ds_ret (de_var 2))))))), fun ds S q qx ⟨wl, n, hd, ⟨a, b, c, d, cs, hw, c0, c1, b0, c2, d0⟩, n0, n1, hq⟩ => ?_⟩
  subst hd
  walk_at "dl"
  refine ixSeq (j := 1) hw rfl ?_
  walk_at "dl"
  refine setOf (j := 1) hw rfl ?_
  walk_at "dl"
  have fin : ∀ (S' : Sto) (r : Int) (b c d : Int), 0 ≤ r → r < n → 0 ≤ b → 0 ≤ c → 0 ≤ d → S' wl = some (.lst [.bl a, .int b, .int c, .int d, .list (cs.map D.int)]) → (∀ x, x ≠ wl → S' x = S x) → q (.int r) S' := fun S' r b c d r0 r1 b0 c0' d0 hw' hf => by
    obtain ⟨m, rfl⟩ := Int.eq_ofNat_of_zero_le r0
    exact hq m S' r1 ⟨a, b, c, d, cs, hw', c0, c1, b0, c0', d0⟩ hf
  refine ixSeq (j := 0) put_same rfl ?_
  walk_at "dl"
  cases a with
  | true =>
    walk_at "dl"
    refine ixSeq (j := 4) put_same rfl ?_
    walk_at "dl"
    refine ixSeq (j := 1) put_same rfl ?_
    walk_at "dl"
    refine ixSeq (j := 4) put_same rfl ?_
    walk_at "dl"
    rw [List.length_map]
    refine needOf (by omega) ?_
    walk_at "dl"
    refine ixMem (m := cs.length) (by rw [List.length_map]) (Int.emod_nonneg _ (by omega)) (Int.emod_lt_of_pos _ (by omega)) fun x hx => ?_
    obtain ⟨z, _, rfl⟩ := List.mem_map.mp hx
    refine ixSeq (j := 1) put_same rfl ?_
    walk_at "dl"
    refine ⟨_, _, rfl, fun r r0 r1 => ?_⟩
    walk_at "dl"
    refine needOf n0 ?_
    exact fin _ _ (b + 1) c d (Int.emod_nonneg _ (by omega)) (Int.emod_lt_of_pos _ n0) (by omega) c2 d0 put_same fun x hx => put_ne hx
  | false =>
    walk_at "dl"
    refine ixSeq (j := 2) put_same rfl ?_
    walk_at "dl"
    refine needOf n0 ?_
    walk_at "dl"
    refine ixSeq (j := 2) put_same rfl ?_
    walk_at "dl"
    refine needOf ⟨n0, n1⟩ ?_
    walk_at "dl"
    refine setOf (j := 2) put_same rfl ?_
    walk_at "dl"
    refine ixSeq (j := 2) put_same rfl ?_
    walk_at "dl"
    have q0 : 0 ≤ c % n := Int.emod_nonneg _ (by omega)
    have q1 : c % n < n := Int.emod_lt_of_pos _ n0
    have q2 : 0 ≤ c / n := Int.ediv_nonneg c2 (by omega)
    have fin2 : ∀ (S' : Sto) (b c' d : Int), 0 ≤ b → 0 ≤ c' → 0 ≤ d → S' wl = some (.lst [.bl false, .int b, .int c', .int d, .list (cs.map D.int)]) → (∀ x, x ≠ wl → S' x = S x) → q (.int (c % n)) S' := fun S' b c' d b0 c0' d0 hw' hf => fin S' _ b c' d q0 q1 b0 c0' d0 hw' hf
    rw [put_put]
    have fr : ∀ (o : O) x, x ≠ wl → put S wl o x = S x := fun o x hx => put_ne hx
    refine br (fun _ => ?_) fun _ => ?_
    · walk_at "dl"
      refine ixSeq (j := 3) put_same rfl ?_
      walk_at "dl"
      refine ixSeq (j := 4) put_same rfl ?_
      walk_at "dl"
      rw [List.length_map]
      refine br (fun y => ?_) fun _ => ?_
      · have y : d < cs.length := of_decide_eq_true y
        walk_at "dl"
        refine ixSeq (j := 4) put_same rfl ?_
        walk_at "dl"
        refine ixSeq (j := 3) put_same rfl ?_
        walk_at "dl"
        refine ixMem (m := cs.length) (by rw [List.length_map]) d0 y fun x hx => ?_
        obtain ⟨z, _, rfl⟩ := List.mem_map.mp hx
        walk_at "dl"
        refine setOf (j := 2) put_same rfl ?_
        rw [put_put]
        walk_at "dl"
        refine ixSeq (j := 3) put_same rfl ?_
        walk_at "dl"
        refine setOf (j := 3) put_same rfl ?_
        rw [put_put]
        walk_at "dl"
        exact fin2 _ (b + 1) _ (d + 1) (by omega) (by split <;> omega) (by omega) put_same (fr _)
      · walk_at "dl"
        exact fin2 _ (b + 1) _ d (by omega) q2 d0 put_same (fr _)
    · walk_at "dl"
      exact fin2 _ (b + 1) _ d (by omega) q2 d0 put_same (fr _)
end
end K

set_option Elab.async false
set_option linter.all false
set_option maxRecDepth 100000
namespace K
open PySem L2 Evl EX DL HM
abbrev s_Thing___init__ : Stmt := inClass (top 2) 0
abbrev N_Thing___init__ : List Str := ["self", "form", "number", "own"]
theorem sc_Thing___init__ : FnScope N_Thing___init__ ["self", "form", "number", "own"] (defScope s_Thing___init__) := ⟨rfl, rfl, rfl, by decide +kernel, rfl, by decide +kernel, by decide +kernel⟩
abbrev s_Hall___init__ : Stmt := inClass (top 4) 0
abbrev N_Hall___init__ : List Str := ["self", "ender"]
theorem sc_Hall___init__ : FnScope N_Hall___init__ ["self", "ender"] (defScope s_Hall___init__) := ⟨rfl, rfl, rfl, by decide +kernel, rfl, by decide +kernel, by decide +kernel⟩
abbrev s_Hall_make : Stmt := inClass (top 4) 1
abbrev N_Hall_make : List Str := ["self", "form", "own", "thing"]
theorem sc_Hall_make : FnScope N_Hall_make ["self", "form", "own"] (defScope s_Hall_make) := ⟨rfl, rfl, rfl, by decide +kernel, rfl, by decide +kernel, by decide +kernel⟩
abbrev s_Hall_hold : Stmt := inClass (top 4) 2
abbrev N_Hall_hold : List Str := ["self", "value"]
theorem sc_Hall_hold : FnScope N_Hall_hold ["self", "value"] (defScope s_Hall_hold) := ⟨rfl, rfl, rfl, by decide +kernel, rfl, by decide +kernel, by decide +kernel⟩
abbrev s_Hall_loose : Stmt := inClass (top 4) 3
abbrev N_Hall_loose : List Str := ["self", "value"]
theorem sc_Hall_loose : FnScope N_Hall_loose ["self", "value"] (defScope s_Hall_loose) := ⟨rfl, rfl, rfl, by decide +kernel, rfl, by decide +kernel, by decide +kernel⟩
abbrev s_Hall_put : Stmt := inClass (top 4) 4
abbrev N_Hall_put : List Str := ["self", "thing", "key", "value", "old"]
theorem sc_Hall_put : FnScope N_Hall_put ["self", "thing", "key", "value"] (defScope s_Hall_put) := ⟨rfl, rfl, rfl, by decide +kernel, rfl, by decide +kernel, by decide +kernel⟩
abbrev s_Hall_take : Stmt := inClass (top 4) 5
abbrev N_Hall_take : List Str := ["self", "thing", "key"]
theorem sc_Hall_take : FnScope N_Hall_take ["self", "thing", "key"] (defScope s_Hall_take) := ⟨rfl, rfl, rfl, by decide +kernel, rfl, by decide +kernel, by decide +kernel⟩
abbrev s_Hall_things : Stmt := inClass (top 4) 6
abbrev N_Hall_things : List Str := ["self"]
theorem sc_Hall_things : FnScope N_Hall_things ["self"] (defScope s_Hall_things) := ⟨rfl, rfl, rfl, by decide +kernel, rfl, by decide +kernel, by decide +kernel⟩
abbrev s_Hall_gone : Stmt := inClass (top 4) 7
abbrev N_Hall_gone : List Str := ["self"]
theorem sc_Hall_gone : FnScope N_Hall_gone ["self"] (defScope s_Hall_gone) := ⟨rfl, rfl, rfl, by decide +kernel, rfl, by decide +kernel, by decide +kernel⟩
abbrev s_Hall_let_go : Stmt := inClass (top 4) 9
abbrev N_Hall_let_go : List Str := ["self", "thing"]
theorem sc_Hall_let_go : FnScope N_Hall_let_go ["self", "thing"] (defScope s_Hall_let_go) := ⟨rfl, rfl, rfl, by decide +kernel, rfl, by decide +kernel, by decide +kernel⟩
abbrev s_Hall_work : Stmt := inClass (top 4) 10
abbrev N_Hall_work : List Str := ["self"]
theorem sc_Hall_work : FnScope N_Hall_work ["self"] (defScope s_Hall_work) := ⟨rfl, rfl, rfl, by decide +kernel, rfl, by decide +kernel, by decide +kernel⟩
abbrev s_Hall_turn : Stmt := inClass (top 4) 11
abbrev N_Hall_turn : List Str := ["self", "thing"]
theorem sc_Hall_turn : FnScope N_Hall_turn ["self", "thing"] (defScope s_Hall_turn) := ⟨rfl, rfl, rfl, by decide +kernel, rfl, by decide +kernel, by decide +kernel⟩
abbrev s_Hall_ask_last : Stmt := inClass (top 4) 12
abbrev N_Hall_ask_last : List Str := ["self", "thing", "row"]
theorem sc_Hall_ask_last : FnScope N_Hall_ask_last ["self", "thing"] (defScope s_Hall_ask_last) := ⟨rfl, rfl, rfl, by decide +kernel, rfl, by decide +kernel, by decide +kernel⟩
abbrev s_Hall_be_gone : Stmt := inClass (top 4) 13
abbrev N_Hall_be_gone : List Str := ["self", "thing"]
theorem sc_Hall_be_gone : FnScope N_Hall_be_gone ["self", "thing"] (defScope s_Hall_be_gone) := ⟨rfl, rfl, rfl, by decide +kernel, rfl, by decide +kernel, by decide +kernel⟩
abbrev s_Hall_empty : Stmt := inClass (top 4) 14
abbrev N_Hall_empty : List Str := ["self", "thing", "key"]
theorem sc_Hall_empty : FnScope N_Hall_empty ["self", "thing"] (defScope s_Hall_empty) := ⟨rfl, rfl, rfl, by decide +kernel, rfl, by decide +kernel, by decide +kernel⟩
structure Txt (K : PySem.W.Frag) (mg : Str → Option Value) (CT CH : Addr) : Prop where
  len : mg "len" = none
  int : mg "int" = none
  range : mg "range" = none
  str : mg "str" = none
  isinstance : mg "isinstance" = none
  bool : mg "bool" = none
  sorted : mg "sorted" = none
  list : mg "list" = none
  enumerate : mg "enumerate" = none
  dict : mg "dict" = none
  min : mg "min" = none
  all : mg "all" = none
  tuple : mg "tuple" = none
  set : mg "set" = none
  sum : mg "sum" = none
  Thing : GlD K mg "Thing" (.ref CT)
  Thing_ : ClsD K CT ["form", "number", "count", "parts", "own", "ended", "waits"]
  Hall_ : ClsD K CH ["ender", "many", "there", "left", "row", "lasts"]
  ThingI : IsiC K CT
section
variable {P : Program} {w : World} {K : PySem.W.Frag} {mg : Str → Option Value} {base : Heap} {CT CH : Addr}
local macro_rules | `(tactic| walk_at "dl") => `(tactic| try simp only [↓x_forS, ↓x_diSL, ↓x_diKeys, ↓x_lock, ↓x_dictP, ↓x_fld, ↓x_fldS, ↓x_fldA, ↓x_meth, ↓x_make, ↓x_dget, ↓x_din, ↓x_dget1, ↓x_dget2, ↓x_dpop, ↓x_dput, ↓x_listD, ↓x_sortDI, ↓x_lenD, ↓x_isiC, x_icS, x_icI, x_icB, x_icN, x_ioS, x_ioI, x_ioB, x_ioN, ↓x_gSub, ↓x_sortDL, ↓x_eqO, ↓x_ninA, x_catN, x_isBB, x_isBN, x_isBI, x_isBS, x_isBR, ↓x_seq, ↓x_nx, ↓x_pass, ↓x_brk, ↓x_cnt, ↓x_drop, ↓x_ret, ↓x_retN, ↓x_ifS, ↓x_set, ↓x_asg, ↓x_gN, ↓x_gT, ↓x_gsC, ↓x_gsN, ↓x_var, x_rdv, ↓x_c, ↓x_op, ↓x_test, x_tst, ↓x_and, ↓x_or, ↓x_not, ↓x_andV, ↓x_orV, ↓x_notV, x_tstV, ↓x_ifE, x_true, x_false, ↓x_nil, ↓x_cons, ↓x_tup, ↓x_lst, ↓x_new, ↓x_newD, ↓x_call, ↓x_cb, x_oI, x_oIc, x_oS, x_addS, x_isN, x_notN, x_eqI, x_eqS, x_eqIS, x_eqSI, x_eqNS, x_neI, x_neS, x_neB, x_eqB, x_few, x_need, ↓x_ix, x_lenS, x_ixL0, x_ixT0, x_ixT1, x_ixT2, x_ixT3, x_ixT4, x_lenL, x_lenT, x_lenC, x_listL, x_listT, x_tupL, x_tupT, x_strI, x_strS, x_int1, x_intB, x_I1, x_I2, x_cat, x_catT, ↓x_split, ↓x_for, ↓x_cut, ↓x_lc, ↓x_whl, ↓x_diL, ↓x_diT, ↓x_diS, x_itL, x_itC, x_itT, x_itS, ↓x_diR1, ↓x_diR2, ↓x_diE, x_enmL, x_enmC, ↓x_gcN, ↓x_gcT, ↓x_yes, ↓x_ml, ↓x_ms, x_strq, x_ss, x_ssc, x_ssi, ↓x_join, ↓x_aug, x_st2I, ↓x_sl, ↓x_noP, ↓x_part, x_intq, x_slL, x_slC, x_slS, ↓x_in, x_inT, x_inL, x_ninT, x_ninL, x_inN, x_inSS, x_inSI, x_inIS, x_inII, ↓x_sg, x_sgS, x_nsgS, ↓x_eqD, ↓x_inDD, x_mulS, ↓x_isi, x_isiS, x_isiI, x_isiB, x_isiN, x_isiL, x_isiT, ↓x_isTT, x_itI, x_itStr, x_itN, x_itB, x_itLst, x_itTup, ↓x_any, ↓x_all, ↓x_sum, ↓x_srtI, ↓x_srtS, ↓x_intS, ↓x_lenRf, ↓x_tupRf, ↓x_frz', x_flS, x_flI, x_flN, x_flB, x_cs_bool, x_isB_NoneType_bool, x_isB_bool_bool, x_isB_int_bool, x_isB_str_bool, x_isB_list_bool, x_isB_tuple_bool, x_isB_dict_bool, x_cs_int, x_isB_NoneType_int, x_isB_bool_int, x_isB_int_int, x_isB_str_int, x_isB_list_int, x_isB_tuple_int, x_isB_dict_int, x_cs_str, x_isB_NoneType_str, x_isB_bool_str, x_isB_int_str, x_isB_str_str, x_isB_list_str, x_isB_tuple_str, x_isB_dict_str, x_cs_list, x_isB_NoneType_list, x_isB_bool_list, x_isB_int_list, x_isB_str_list, x_isB_list_list, x_isB_tuple_list, x_isB_dict_list, x_cs_tuple, x_isB_NoneType_tuple, x_isB_bool_tuple, x_isB_int_tuple, x_isB_str_tuple, x_isB_list_tuple, x_isB_tuple_tuple, x_isB_dict_tuple, x_cs_dict, x_isB_NoneType_dict, x_isB_bool_dict, x_isB_int_dict, x_isB_str_dict, x_isB_list_dict, x_isB_tuple_dict, x_isB_dict_dict, List.all_cons, List.all_nil, Bool.and_self, Bool.or_false, Bool.or_true, Bool.false_or, Bool.true_or, wipeD, setD, DL.isNon, List.set_cons_zero, List.set_cons_succ, List.getElem?_cons_zero, List.getElem?_cons_succ, List.length_cons, List.length_nil, Nat.zero_add, List.cons_append, List.nil_append, decide_true, decide_false, Bool.not_true, Bool.not_false, true_and, and_true, startD, List.map_cons, List.map_nil, Nat.reduceSub, Nat.reduceLeDiff, Nat.zero_le, Int.reduceLT, Int.reduceLE, and_self, Nat.reduceAdd, List.replicate])
def dThInit (CT : Addr) : SpD := fun ds S k _ => ∃ (a dx : Addr) (form : Str) (num : Int) (own : D), ds = [.ref a, .str form, .int num, own] ∧ S a = some (.ins CT dx []) ∧
  ∀ pd, S pd = none → k .non (put (put S pd (.dct [])) a (.ins CT dx (thFs (.str form) (.int num) (.int 0) (.ref pd) own (.bl false) (.bl false))))
theorem ok_thinit {fa : Addr} {fd : FuncData} (F : Fun K "__init__" "Thing.__init__" s_Thing___init__ fa fd) (T : Txt K mg CT CH) : FnOk P w K mg base CX0 1 fa fd ["self", "form", "number", "own"] (lSp K (dThInit CT)) := by
  refine dok F sc_Thing___init__ (fun ds S q qx ⟨a, dx, form, num, own, h, _⟩ => by rw [h]; rfl) ⟨_, fun cdv A outer s H E hr => dss_cons (ds_fld T.Thing_ (by decide +kernel) (de_var 0) (de_var 1))
      (dss_cons (ds_fld T.Thing_ (by decide +kernel) (de_var 0) (de_var 2))
      (dss_cons (ds_fld T.Thing_ (by decide +kernel) (de_var 0) (de_int))
      (dss_cons (ds_fld T.Thing_ (by decide +kernel) (de_var 0) (de_newD))
      (dss_cons (ds_fld T.Thing_ (by decide +kernel) (de_var 0) (de_var 3))
      (dss_cons (ds_fld T.Thing_ (by decide +kernel) (de_var 0) (de_bl))
      (dss_one (ds_fld T.Thing_ (by decide +kernel) (de_var 0) (de_bl)))))))), fun ds S q qx ⟨a, dx, form, num, own, hd, ha, h⟩ => ?_⟩
  subst hd
  walk_at "dl"
  refine fldsOf ha (Nat.le_of_ble_eq_true rfl) ?_
  walk_at "dl"
  refine fldsOf put_same (Nat.le_of_ble_eq_true rfl) ?_
  walk_at "dl"
  refine fldsOf put_same (Nat.le_of_ble_eq_true rfl) ?_
  walk_at "dl"
  rw [put_put, put_put]
  refine freshOf fun pd hp => ?_
  have ne : a ≠ pd := sto_ne put_same hp
  rw [put_ne ne.symm] at hp
  walk_at "dl"
  refine fldsOf (by rw [put_ne ne]; exact put_same) (Nat.le_of_ble_eq_true rfl) ?_
  walk_at "dl"
  refine fldsOf put_same (Nat.le_of_ble_eq_true rfl) ?_
  walk_at "dl"
  refine fldsOf put_same (Nat.le_of_ble_eq_true rfl) ?_
  walk_at "dl"
  refine fldsOf put_same (Nat.le_of_ble_eq_true rfl) ?_
  walk_at "dl"
  rw [put_put, put_put, put_put, put_comm ne, put_put]
  exact h pd hp
def dHaInit (CH : Addr) : SpD := fun ds S k _ => ∃ (a dx : Addr) (own : D), ds = [.ref a, own] ∧ S a = some (.ins CH dx []) ∧
  ∀ th lf S', S th = none → S lf = none → th ≠ lf → S' a = some (.ins CH dx (haFs own (.int 0) (.ref th) (.ref lf) .non (.int 0))) → S' th = some (.dct []) → S' lf = some (.lst []) → (∀ b, b ≠ th → b ≠ lf → b ≠ a → S' b = S b) → k .non S'
theorem ok_hainit {fa : Addr} {fd : FuncData} (F : Fun K "__init__" "Hall.__init__" s_Hall___init__ fa fd) (T : Txt K mg CT CH) : FnOk P w K mg base CX0 1 fa fd ["self", "ender"] (lSp K (dHaInit CH)) := by
  refine dok F sc_Hall___init__ (fun ds S q qx ⟨a, dx, own, h, _⟩ => by rw [h]; rfl) ⟨_, fun cdv A outer s H E hr => dss_cons (ds_fld T.Hall_ (by decide +kernel) (de_var 0) (de_var 1))
      (dss_cons (ds_fld T.Hall_ (by decide +kernel) (de_var 0) (de_int))
      (dss_cons (ds_fld T.Hall_ (by decide +kernel) (de_var 0) (de_newD))
      (dss_cons (ds_fld T.Hall_ (by decide +kernel) (de_var 0) (de_new (da_nil)))
      (dss_cons (ds_fld T.Hall_ (by decide +kernel) (de_var 0) (de_non))
      (dss_one (ds_fld T.Hall_ (by decide +kernel) (de_var 0) (de_int))))))), fun ds S q qx ⟨a, dx, own, hd, ha, h⟩ => ?_⟩
  subst hd
  walk_at "dl"
  refine fldsOf ha (Nat.le_of_ble_eq_true rfl) ?_
  walk_at "dl"
  refine fldsOf put_same (Nat.le_of_ble_eq_true rfl) ?_
  walk_at "dl"
  rw [put_put]
  refine freshOf fun th hp => ?_
  have ne : a ≠ th := sto_ne put_same hp
  rw [put_ne ne.symm] at hp
  walk_at "dl"
  refine fldsOf (by rw [put_ne ne]; exact put_same) (Nat.le_of_ble_eq_true rfl) ?_
  walk_at "dl"
  refine freshOf fun lf hl => ?_
  have ne2 : a ≠ lf := sto_ne put_same hl
  rw [put_ne ne2.symm] at hl
  have ne3 : th ≠ lf := sto_ne put_same hl
  rw [put_ne ne3.symm, put_ne ne2.symm] at hl
  walk_at "dl"
  refine fldsOf (by rw [put_ne ne2]; exact put_same) (Nat.le_of_ble_eq_true rfl) ?_
  walk_at "dl"
  refine fldsOf put_same (Nat.le_of_ble_eq_true rfl) ?_
  walk_at "dl"
  refine fldsOf put_same (Nat.le_of_ble_eq_true rfl) ?_
  walk_at "dl"
  rw [put_put, put_put]
  refine h th lf _ hp hl ne3 put_same ?_ ?_ fun b n1 n2 n => ?_
  · rw [put_ne ne.symm, put_ne ne3, put_ne ne.symm]; exact put_same
  · rw [put_ne ne2.symm]; exact put_same
  · rw [put_ne n, put_ne n2, put_ne n, put_ne n1, put_ne n]
end
end K

set_option Elab.async false
set_option linter.all false
set_option maxRecDepth 100000
namespace K
open PySem L2 Evl EX DL HM
section
variable {P : Program} {w : World} {K : PySem.W.Frag} {mg : Str → Option Value} {base : Heap} {CT CH : Addr} {en : Ed}
local macro_rules | `(tactic| walk_at "dl") => `(tactic| try simp only [↓x_forS, ↓x_diSL, ↓x_diKeys, ↓x_lock, ↓x_dictP, ↓x_fld, ↓x_fldS, ↓x_fldA, ↓x_meth, ↓x_make, ↓x_dget, ↓x_din, ↓x_dget1, ↓x_dget2, ↓x_dpop, ↓x_dput, ↓x_listD, ↓x_sortDI, ↓x_lenD, ↓x_isiC, x_icS, x_icI, x_icB, x_icN, x_ioS, x_ioI, x_ioB, x_ioN, ↓x_gSub, ↓x_sortDL, ↓x_eqO, ↓x_ninA, x_catN, x_isBB, x_isBN, x_isBI, x_isBS, x_isBR, ↓x_seq, ↓x_nx, ↓x_pass, ↓x_brk, ↓x_cnt, ↓x_drop, ↓x_ret, ↓x_retN, ↓x_ifS, ↓x_set, ↓x_asg, ↓x_gN, ↓x_gT, ↓x_gsC, ↓x_gsN, ↓x_var, x_rdv, ↓x_c, ↓x_op, ↓x_test, x_tst, ↓x_and, ↓x_or, ↓x_not, ↓x_andV, ↓x_orV, ↓x_notV, x_tstV, ↓x_ifE, x_true, x_false, ↓x_nil, ↓x_cons, ↓x_tup, ↓x_lst, ↓x_new, ↓x_newD, ↓x_call, ↓x_cb, x_oI, x_oIc, x_oS, x_addS, x_isN, x_notN, x_eqI, x_eqS, x_eqIS, x_eqSI, x_eqNS, x_neI, x_neS, x_neB, x_eqB, x_few, x_need, ↓x_ix, x_lenS, x_ixL0, x_ixT0, x_ixT1, x_ixT2, x_ixT3, x_ixT4, x_lenL, x_lenT, x_lenC, x_listL, x_listT, x_tupL, x_tupT, x_strI, x_strS, x_int1, x_intB, x_I1, x_I2, x_cat, x_catT, ↓x_split, ↓x_for, ↓x_cut, ↓x_lc, ↓x_whl, ↓x_diL, ↓x_diT, ↓x_diS, x_itL, x_itC, x_itT, x_itS, ↓x_diR1, ↓x_diR2, ↓x_diE, x_enmL, x_enmC, ↓x_gcN, ↓x_gcT, ↓x_yes, ↓x_ml, ↓x_ms, x_strq, x_ss, x_ssc, x_ssi, ↓x_join, ↓x_aug, x_st2I, ↓x_sl, ↓x_noP, ↓x_part, x_intq, x_slL, x_slC, x_slS, ↓x_in, x_inT, x_inL, x_ninT, x_ninL, x_inN, x_inSS, x_inSI, x_inIS, x_inII, ↓x_sg, x_sgS, x_nsgS, ↓x_eqD, ↓x_inDD, x_mulS, ↓x_isi, x_isiS, x_isiI, x_isiB, x_isiN, x_isiL, x_isiT, ↓x_isTT, x_itI, x_itStr, x_itN, x_itB, x_itLst, x_itTup, ↓x_any, ↓x_all, ↓x_sum, ↓x_srtI, ↓x_srtS, ↓x_intS, ↓x_lenRf, ↓x_tupRf, ↓x_frz', x_flS, x_flI, x_flN, x_flB, x_cs_bool, x_isB_NoneType_bool, x_isB_bool_bool, x_isB_int_bool, x_isB_str_bool, x_isB_list_bool, x_isB_tuple_bool, x_isB_dict_bool, x_cs_int, x_isB_NoneType_int, x_isB_bool_int, x_isB_int_int, x_isB_str_int, x_isB_list_int, x_isB_tuple_int, x_isB_dict_int, x_cs_str, x_isB_NoneType_str, x_isB_bool_str, x_isB_int_str, x_isB_str_str, x_isB_list_str, x_isB_tuple_str, x_isB_dict_str, x_cs_list, x_isB_NoneType_list, x_isB_bool_list, x_isB_int_list, x_isB_str_list, x_isB_list_list, x_isB_tuple_list, x_isB_dict_list, x_cs_tuple, x_isB_NoneType_tuple, x_isB_bool_tuple, x_isB_int_tuple, x_isB_str_tuple, x_isB_list_tuple, x_isB_tuple_tuple, x_isB_dict_tuple, x_cs_dict, x_isB_NoneType_dict, x_isB_bool_dict, x_isB_int_dict, x_isB_str_dict, x_isB_list_dict, x_isB_tuple_dict, x_isB_dict_dict, List.all_cons, List.all_nil, Bool.and_self, Bool.or_false, Bool.or_true, Bool.false_or, Bool.true_or, wipeD, setD, DL.isNon, List.set_cons_zero, List.set_cons_succ, List.getElem?_cons_zero, List.getElem?_cons_succ, List.length_cons, List.length_nil, Nat.zero_add, List.cons_append, List.nil_append, decide_true, decide_false, Bool.not_true, Bool.not_false, true_and, and_true, startD, List.map_cons, List.map_nil, Nat.reduceSub, Nat.reduceLeDiff, Nat.zero_le, Int.reduceLT, Int.reduceLE, and_self, Nat.reduceAdd, List.replicate])
def dHold (CT CH : Addr) (en : Ed) : SpD := fun ds S k _ => ∃ (H : HA) (s : Hs) (v : Vl), ds = [.ref (H.a .hall), vD H v] ∧ HRep CT CH en H s S ∧ VOk s.many v ∧ ∀ S', HTr CT CH en H s S H (s.held v) S' → k .non S'
theorem ok_hold {fa : Addr} {fd : FuncData} (F : Fun K "hold" "Hall.hold" s_Hall_hold fa fd) (T : Txt K mg CT CH) : FnOk P w K mg base CX0 1 fa fd ["self", "value"] (lSp K (dHold CT CH en)) := by
  refine dok F sc_Hall_hold (fun ds S q qx ⟨H, s, v, e, _⟩ => by rw [e]; rfl) ⟨_, fun cdv A outer s H E hr => dss_one (ds_if (dt_val (de_callB (clIsi' (K := K)) (si_isiC T.ThingI) (by rfl) T.isinstance (by decide +kernel) (da_cons (de_var 1) (da_cons (de_gl (by rfl) T.Thing) da_nil))))
        (dss_one (ds_fldaug T.Thing_ (by decide +kernel) (de_var 1) (de_int) in_add))
        (dss_nil)), fun ds S q qx ⟨H, s, v, hd, R, hv, hq⟩ => ?_⟩
  subst hd
  cases v with
  | no d =>
    have hn : NoTh d := hv
    walk_at "dl"
    cases hn <;> (simp only [vD]; walk_at "dl"; exact hq _ (HTr.refl R))
  | th n =>
    have e := hrep_t R hv.1 hv.2
    walk_at "dl"
    simp only [vD]
    rw [x_own e]
    walk_at "dl"
    refine fldOf e th_count ?_
    walk_at "dl"
    refine fldsOf e (Nat.le_of_ble_eq_true rfl) ?_
    rw [th_count']
    walk_at "dl"
    exact hq _ (HTr.cnt R hv.1 hv.2 _)
theorem there_some {H : HA} {l : List Nat} {n : Nat} : (gval (l.map fun n : Nat => ((.inl (n : Int), .ref (H.a (.t n))) : Key × D)) (.inl (n : Int))).isSome = decide (n ∈ l) := by
  unfold gval
  rw [Option.isSome_map, Bool.eq_iff_iff, List.find?_isSome, decide_eq_true_iff]
  constructor
  · rintro ⟨x, hx, h⟩
    obtain ⟨m, hm, rfl⟩ := List.mem_map.mp hx
    have := Sum.inl.inj (of_decide_eq_true h)
    rw [show n = m by omega]
    exact hm
  · intro h
    exact ⟨_, List.mem_map.mpr ⟨n, h, rfl⟩, by simp⟩
/-- a thing whose last hold is loosed, a row being at work -/
def dLetIn (CT CH : Addr) (en : Ed) : SpD := fun ds S k _ => ∃ (H : HA) (s : Hs) (n : Nat), ds = [.ref (H.a .hall), .ref (H.a (.t n))] ∧ HRep CT CH en H s S ∧ Wf s ∧ 1 ≤ n ∧ n ≤ s.many ∧ s.cnt n = 0 ∧ s.row ≠ none ∧
  ∀ S', HTr CT CH en H s S H (if s.enqs n = true then s.enq n else s) S' → k .non S'
theorem row_len {s : Hs} {l : List Nat} (w : Wf s) (h : s.row = some l) : l.length ≤ 5000 := by
  obtain ⟨r1, r2⟩ := w.rnd l h
  have : l.length ≤ s.many := by
    have key : ∀ (m : Nat) (l : List Nat), l.Nodup → (∀ o ∈ l, 1 ≤ o ∧ o ≤ m) → l.length ≤ m := by
      intro m
      induction m with
      | zero =>
        intro l _ h
        cases l with
        | nil => exact Nat.le_refl _
        | cons x r => have := h x (List.mem_cons_self ..); omega
      | succ m ih =>
        intro l nd h
        by_cases e : m + 1 ∈ l
        · have := ih (l.erase (m + 1)) (nd.erase _) fun o ho => by
            have h1 := h o (List.mem_of_mem_erase ho)
            have : o ≠ m + 1 := fun z => (List.Nodup.mem_erase_iff nd).mp ho |>.1 z
            omega
          rw [List.length_erase_of_mem e] at this
          omega
        · have := ih l nd fun o ho => by
            have h1 := h o ho
            have : o ≠ m + 1 := fun z => e (z ▸ ho)
            omega
          omega
    exact key _ l r1 fun o ho => w.win o (r2 o ho)
  have := w.most
  omega
theorem ok_let_in {fa : Addr} {fd : FuncData} (F : Fun K "let_go" "Hall.let_go" s_Hall_let_go fa fd) (T : Txt K mg CT CH) : FnOk P w K mg base CX0 1 fa fd ["self", "thing"] (lSp K (dLetIn CT CH en)) := by
  refine dok F sc_Hall_let_go (fun ds S q qx ⟨H, s, n, e, _⟩ => by rw [e]; rfl) ⟨_, fun cdv A outer s H E hr => dss_cons (ds_if (PW.pt (dw_or (dt_val (de_fld T.Thing_ (by decide +kernel) (de_var 1))) (dw_or1 (dt_dinN (hu_of hr) (de_fld T.Thing_ (by decide +kernel) (de_var 1)) (de_fld T.Hall_ (by decide +kernel) (de_var 0))))))
        (dss_one (ds_retN))
        (dss_nil))
      (dss_cons (ds_fld T.Thing_ (by decide +kernel) (de_var 1) (de_bl))
      (dss_one (ds_if (dt_cmp op_isN si_isN (de_fld T.Hall_ (by decide +kernel) (de_var 0)) (de_non) (nomark _))
        (dss_cons (ds_fld T.Hall_ (by decide +kernel) (de_var 0) (de_new (da_cons (de_var 1) da_nil)))
        (dss_one (ds_never)))
        (dss_one (ds_expr (de_ml PySem.F.slot_list_append PySem.F.type_list_append mt_append si_app (de_fld T.Hall_ (by decide +kernel) (de_var 0)) (da_cons (de_var 1) da_nil))))))), fun ds S q qx ⟨H, s, n, hd, R, W, h1, h2, hc, hr, hq⟩ => ?_⟩
  subst hd
  have e := hrep_t R h1 h2
  walk_at "dl"
  refine fldOf e th_waits ?_
  by_cases hw : n ∈ s.waits
  · rw [decide_eq_true hw]
    walk_at "dl"
    rw [if_neg (by unfold Hs.enqs; simp [hw])] at hq
    exact hq _ (HTr.refl R)
  · rw [decide_eq_false hw]
    walk_at "dl"
    refine fldOf e th_number ?_
    walk_at "dl"
    refine fldOf (hrep_hall R) ha_there ?_
    walk_at "dl"
    refine dninOf (hrep_th R) rfl ?_
    rw [there_some]
    by_cases ht : n ∈ s.there
    · rw [decide_eq_true ht]
      walk_at "dl"
      refine fldsOf e (Nat.le_of_ble_eq_true rfl) ?_
      rw [th_waits']
      rw [if_pos (by unfold Hs.enqs; simp [hw, ht, hc])] at hq
      have R1 := HTr.wait R h1 h2 (s.waits ++ [n]) fun i hi => by simp [hi]
      rw [decide_eq_true (show n ∈ s.waits ++ [n] by simp)] at R1
      obtain ⟨l, hl⟩ : ∃ l, s.row = some l := Option.ne_none_iff_exists'.mp hr
      have hh := hrep_hall R1.rep
      dsimp only at hh
      rw [hl] at hh
      walk_at "dl"
      refine fldOf hh ha_row ?_
      simp only [rowD]
      walk_at "dl"
      refine fldOf hh ha_row ?_
      simp only [rowD]
      walk_at "dl"
      have hrow := hrep_row R1.rep (l := l) hl
      refine needOf (isLOf hrow) ?_
      walk_at "dl"
      refine appOf hrow (by rw [List.length_map]; have := row_len W hl; omega) ?_
      have R2 := HTr.setRow R1.rep (l0 := l) hl (l ++ [n])
      rw [List.map_append] at R2
      refine hq _ (R1.trans ?_)
      have : s.enq n = { s with waits := s.waits ++ [n], row := some (l ++ [n]) } := by unfold Hs.enq; rw [hl]; rfl
      rw [this]
      exact R2
    · rw [decide_eq_false ht]
      walk_at "dl"
      rw [if_neg (by unfold Hs.enqs; simp [ht])] at hq
      exact hq _ (HTr.refl R)
def dLooseIn (CT CH : Addr) (en : Ed) : SpD := fun ds S k _ => ∃ (H : HA) (s : Hs) (v : Vl), ds = [.ref (H.a .hall), vD H v] ∧ HRep CT CH en H s S ∧ Wf s ∧ VOk s.many v ∧ s.row ≠ none ∧ ∀ S', HTr CT CH en H s S H (s.loosed v) S' → k .non S'
theorem ok_loose_in {fa : Addr} {fd : FuncData} (F : Fun K "loose" "Hall.loose" s_Hall_loose fa fd) (T : Txt K mg CT CH) (G_Hall_let_go : MDef P w K mg base 1 CH "let_go" ["self", "thing"] (lSp K (dLetIn CT CH en))) : FnOk P w K mg base CX0 2 fa fd ["self", "value"] (lSp K (dLooseIn CT CH en)) := by
  refine dok F sc_Hall_loose (fun ds S q qx ⟨H, s, v, e, _⟩ => by rw [e]; rfl) ⟨_, fun cdv A outer s H E hr => dss_one (ds_if (dt_val (de_callB (clIsi' (K := K)) (si_isiC T.ThingI) (by rfl) T.isinstance (by decide +kernel) (da_cons (de_var 1) (da_cons (de_gl (by rfl) T.Thing) da_nil))))
        (dss_cons (ds_fldaug T.Thing_ (by decide +kernel) (de_var 1) (de_int) in_sub)
        (dss_one (ds_if (dt_cmp op_eq si_eq (de_fld T.Thing_ (by decide +kernel) (de_var 1)) (de_int) (nomark _))
          (dss_one (ds_expr (de_meth T.Hall_ G_Hall_let_go (hr.mono (by omega)) (de_var 0) (da_cons (de_var 1) da_nil))))
          (dss_nil))))
        (dss_nil)), fun ds S q qx ⟨H, s, v, hd, R, W, hv, hr, hq⟩ => ?_⟩
  subst hd
  cases v with
  | no d =>
    have hn : NoTh d := hv
    walk_at "dl"
    cases hn <;> (simp only [vD]; walk_at "dl"; exact hq _ (HTr.refl R))
  | th n =>
    have e := hrep_t R hv.1 hv.2
    walk_at "dl"
    simp only [vD]
    rw [x_own e]
    walk_at "dl"
    refine fldOf e th_count ?_
    walk_at "dl"
    refine fldsOf e (Nat.le_of_ble_eq_true rfl) ?_
    rw [th_count']
    have R1 := HTr.cnt R hv.1 hv.2 (s.cnt n - 1)
    walk_at "dl"
    refine fldOf put_same th_count ?_
    walk_at "dl"
    have ed : (s.dec n).cnt n = s.cnt n - 1 := DL.fset_same
    by_cases z : s.cnt n - 1 = 0
    · rw [decide_eq_true z]
      walk_at "dl"
      refine needOf (methOf (x := .non) (hrep_hall R1.rep) rfl) ?_
      walk_at "dl"
      exact ⟨H, s.dec n, n, rfl, R1.rep, W.dec n, hv.1, hv.2, by rw [ed]; exact z, hr, fun S' T => hq S' (R1.trans T)⟩
    · rw [decide_eq_false z]
      walk_at "dl"
      rw [loosed_th, if_neg (by unfold Hs.enqs; rw [ed]; simp [z])] at hq
      exact hq _ R1
end
end K

set_option Elab.async false
set_option linter.all false
set_option maxRecDepth 100000
namespace K
open PySem L2 Evl EX DL HM
section
variable {P : Program} {w : World} {K : PySem.W.Frag} {mg : Str → Option Value} {base : Heap} {CT CH : Addr} {en : Ed}
local macro_rules | `(tactic| walk_at "dl") => `(tactic| try simp only [↓x_forS, ↓x_diSL, ↓x_diKeys, ↓x_lock, ↓x_dictP, ↓x_fld, ↓x_fldS, ↓x_fldA, ↓x_meth, ↓x_make, ↓x_dget, ↓x_din, ↓x_dget1, ↓x_dget2, ↓x_dpop, ↓x_dput, ↓x_listD, ↓x_sortDI, ↓x_lenD, ↓x_isiC, x_icS, x_icI, x_icB, x_icN, x_ioS, x_ioI, x_ioB, x_ioN, ↓x_gSub, ↓x_sortDL, ↓x_eqO, ↓x_ninA, x_catN, x_isBB, x_isBN, x_isBI, x_isBS, x_isBR, ↓x_seq, ↓x_nx, ↓x_pass, ↓x_brk, ↓x_cnt, ↓x_drop, ↓x_ret, ↓x_retN, ↓x_ifS, ↓x_set, ↓x_asg, ↓x_gN, ↓x_gT, ↓x_gsC, ↓x_gsN, ↓x_var, x_rdv, ↓x_c, ↓x_op, ↓x_test, x_tst, ↓x_and, ↓x_or, ↓x_not, ↓x_andV, ↓x_orV, ↓x_notV, x_tstV, ↓x_ifE, x_true, x_false, ↓x_nil, ↓x_cons, ↓x_tup, ↓x_lst, ↓x_new, ↓x_newD, ↓x_call, ↓x_cb, x_oI, x_oIc, x_oS, x_addS, x_isN, x_notN, x_eqI, x_eqS, x_eqIS, x_eqSI, x_eqNS, x_neI, x_neS, x_neB, x_eqB, x_few, x_need, ↓x_ix, x_lenS, x_ixL0, x_ixT0, x_ixT1, x_ixT2, x_ixT3, x_ixT4, x_lenL, x_lenT, x_lenC, x_listL, x_listT, x_tupL, x_tupT, x_strI, x_strS, x_int1, x_intB, x_I1, x_I2, x_cat, x_catT, ↓x_split, ↓x_for, ↓x_cut, ↓x_lc, ↓x_whl, ↓x_diL, ↓x_diT, ↓x_diS, x_itL, x_itC, x_itT, x_itS, ↓x_diR1, ↓x_diR2, ↓x_diE, x_enmL, x_enmC, ↓x_gcN, ↓x_gcT, ↓x_yes, ↓x_ml, ↓x_ms, x_strq, x_ss, x_ssc, x_ssi, ↓x_join, ↓x_aug, x_st2I, ↓x_sl, ↓x_noP, ↓x_part, x_intq, x_slL, x_slC, x_slS, ↓x_in, x_inT, x_inL, x_ninT, x_ninL, x_inN, x_inSS, x_inSI, x_inIS, x_inII, ↓x_sg, x_sgS, x_nsgS, ↓x_eqD, ↓x_inDD, x_mulS, ↓x_isi, x_isiS, x_isiI, x_isiB, x_isiN, x_isiL, x_isiT, ↓x_isTT, x_itI, x_itStr, x_itN, x_itB, x_itLst, x_itTup, ↓x_any, ↓x_all, ↓x_sum, ↓x_srtI, ↓x_srtS, ↓x_intS, ↓x_lenRf, ↓x_tupRf, ↓x_frz', x_flS, x_flI, x_flN, x_flB, x_cs_bool, x_isB_NoneType_bool, x_isB_bool_bool, x_isB_int_bool, x_isB_str_bool, x_isB_list_bool, x_isB_tuple_bool, x_isB_dict_bool, x_cs_int, x_isB_NoneType_int, x_isB_bool_int, x_isB_int_int, x_isB_str_int, x_isB_list_int, x_isB_tuple_int, x_isB_dict_int, x_cs_str, x_isB_NoneType_str, x_isB_bool_str, x_isB_int_str, x_isB_str_str, x_isB_list_str, x_isB_tuple_str, x_isB_dict_str, x_cs_list, x_isB_NoneType_list, x_isB_bool_list, x_isB_int_list, x_isB_str_list, x_isB_list_list, x_isB_tuple_list, x_isB_dict_list, x_cs_tuple, x_isB_NoneType_tuple, x_isB_bool_tuple, x_isB_int_tuple, x_isB_str_tuple, x_isB_list_tuple, x_isB_tuple_tuple, x_isB_dict_tuple, x_cs_dict, x_isB_NoneType_dict, x_isB_bool_dict, x_isB_int_dict, x_isB_str_dict, x_isB_list_dict, x_isB_tuple_dict, x_isB_dict_dict, List.all_cons, List.all_nil, Bool.and_self, Bool.or_false, Bool.or_true, Bool.false_or, Bool.true_or, wipeD, setD, DL.isNon, List.set_cons_zero, List.set_cons_succ, List.getElem?_cons_zero, List.getElem?_cons_succ, List.length_cons, List.length_nil, Nat.zero_add, List.cons_append, List.nil_append, decide_true, decide_false, Bool.not_true, Bool.not_false, true_and, and_true, startD, List.map_cons, List.map_nil, Nat.reduceSub, Nat.reduceLeDiff, Nat.zero_le, Int.reduceLT, Int.reduceLE, and_self, Nat.reduceAdd, List.replicate])
theorem keyD_dK (k : Key) : keyD (dK k) = some k := by cases k <;> rfl
theorem gval_head {β : Type} {k : Key} {v : β} {r : List (Key × β)} : gval ((k, v) :: r) k = some v := by simp [gval, List.find?_cons]
theorem gdrop_head {β : Type} {k : Key} {v : β} {r : List (Key × β)} (h : k ∉ r.map (·.1)) : gdrop ((k, v) :: r) k = r := by
  unfold gdrop
  rw [List.filter_cons, if_neg (by simp), List.filter_eq_self]
  intro x hx
  rw [decide_eq_true_iff]
  exact fun z => h (List.mem_map.mpr ⟨x, hx, z⟩)
def dEmpty (CT CH : Addr) (en : Ed) : SpD := fun ds S k _ => ∃ (H : HA) (s : Hs) (n : Nat), ds = [.ref (H.a .hall), .ref (H.a (.t n))] ∧ HRep CT CH en H s S ∧ Wf s ∧ 1 ≤ n ∧ n ≤ s.many ∧ s.row ≠ none ∧ ∀ S', HTr CT CH en H s S H (s.emptied n (s.parts n)) S' → k .non S'
def EmI (CT CH : Addr) (en : Ed) (H : HA) (s : Hs) (n : Nat) (S : Sto) (i : Nat) (δ : Dst) (S' : Sto) : Prop := ∃ (z : Option D) (si : Hs), δ = [some (.ref (H.a .hall)), some (.ref (H.a (.t n))), z] ∧ HTr CT CH en H s S H si S' ∧ Wf si ∧ si.many = s.many ∧ si.row ≠ none ∧ si.parts n = (s.parts n).drop i ∧ si.emptied n ((s.parts n).drop i) = s.emptied n (s.parts n)
theorem ok_empty {fa : Addr} {fd : FuncData} (F : Fun K "empty" "Hall.empty" s_Hall_empty fa fd) (T : Txt K mg CT CH) (G_Hall_loose : MDef P w K mg base 2 CH "loose" ["self", "value"] (lSp K (dLooseIn CT CH en))) : FnOk P w K mg base CX0 3 fa fd ["self", "thing"] (lSp K (dEmpty CT CH en)) := by
  refine dok F sc_Hall_empty (fun ds S q qx ⟨H, s, n, e, _⟩ => by rw [e]; rfl) ⟨_, fun cdv A outer s H E hr => dss_one (ds_for PassesOwn.never rfl (di_list (K := K) (de_callTy (call_listD rfl) si_listD (by rfl) T.list (by decide +kernel) (da_cons (de_fld T.Thing_ (by decide +kernel) (de_var 1)) da_nil))) (dg_name (i := 2) sc_Hall_empty.nd rfl (Or.inl rfl))
        (dss_one (ds_expr (de_meth T.Hall_ G_Hall_loose (hr.mono (by decide)) (de_var 0) (da_cons (de_dpop (de_fld T.Thing_ (by decide +kernel) (de_var 1)) (de_var 2)) da_nil))))), fun ds S q qx ⟨H, s, n, hd, R, W, h1, h2, hr, hq⟩ => ?_⟩
  subst hd
  have e := hrep_t R h1 h2
  walk_at "dl"
  refine fldOf e th_parts ?_
  walk_at "dl"
  refine listDOf (hrep_pd R h1 h2) ?_
  walk_at "dl"
  refine forOf (EmI CT CH en H s n S) ⟨_, s, rfl, HTr.refl R, W, rfl, hr, rfl, rfl⟩ ?_ ?_
  · rintro i d δ S' hi ⟨z, si, rfl, T1, W1, hm, hr1, hp, he⟩
    obtain ⟨kv, hkv, rfl⟩ := Option.map_eq_some_iff.mp ((List.getElem?_map (f := fun kv : Key × D => dK kv.1)) ▸ hi)
    obtain ⟨kj, hkj, rfl⟩ := Option.map_eq_some_iff.mp ((List.getElem?_map (f := fun kj : Key × Vl => (kj.1, vD H kj.2))) ▸ hkv)
    have hlt := (List.getElem?_eq_some_iff.mp hkj).1
    have hdr : (s.parts n).drop i = kj :: (s.parts n).drop (i + 1) := by
      rw [List.drop_eq_getElem_cons hlt, (List.getElem?_eq_some_iff.mp hkj).2]
    rw [hdr] at hp he
    have hpd := hrep_pd T1.rep h1 (by rw [hm]; exact h2)
    rw [hp, List.map_cons] at hpd
    have hno : kj.1 ∉ (((s.parts n).drop (i + 1)).map fun kv => ((kv.1, vD H kv.2) : Key × D)).map (·.1) := by
      rw [List.map_map]
      have nd := W1.key n
      rw [hp, List.map_cons] at nd
      exact (List.nodup_cons.mp nd).1
    walk_at "dl"
    refine needOf (methOf (x := .non) (hrep_hall T1.rep) rfl) ?_
    walk_at "dl"
    refine fldOf (hrep_t T1.rep h1 (by rw [hm]; exact h2)) th_parts (isDOf hpd ?_)
    walk_at "dl"
    refine dpopOf hpd (keyD_dK _) gval_head ?_
    rw [gdrop_head hno]
    have T2 := HTr.parts T1.rep h1 (by rw [hm]; exact h2) ((s.parts n).drop (i + 1))
    walk_at "dl"
    refine ⟨H, _, kj.2, rfl, T2.rep, W1.part hp, ?_, hr1, fun S3 T3 => ?_⟩
    · exact W1.pv n kj (by rw [hp]; exact List.mem_cons_self ..)
    · refine ⟨_, _, rfl, (T1.trans T2).trans T3, (W1.part hp).loosed _, ?_, ?_, ?_, he⟩
      · rw [loosed_many]; exact hm
      · intro z
        have := (loosed_row _ _).mp z
        exact hr1 this
      · rw [loosed_parts]; exact DL.fset_same
  · rintro δ S' ⟨z, si, rfl, T1, W1, hm, hr1, hp, he⟩
    rw [List.length_map, List.length_map, List.drop_length] at he
    refine hq S' ?_
    rw [← he]
    exact T1
def dBeGone (CT CH : Addr) (en : Ed) : SpD := fun ds S k _ => ∃ (H : HA) (s : Hs) (n : Nat), ds = [.ref (H.a .hall), .ref (H.a (.t n))] ∧ HRep CT CH en H s S ∧ Wf s ∧ n ∈ s.there ∧ ∀ S', HTr CT CH en H s S H (s.gone n) S' → k .non S'
theorem there_drop {H : HA} {n : Nat} (l : List Nat) : gdrop (l.map fun n : Nat => ((.inl (n : Int), .ref (H.a (.t n))) : Key × D)) (.inl (n : Int)) = (l.filter fun i => decide (i ≠ n)).map fun n : Nat => ((.inl (n : Int), .ref (H.a (.t n))) : Key × D) := by
  unfold gdrop
  rw [List.filter_map]
  congr 1
  refine List.filter_congr fun i _ => ?_
  show decide ((Sum.inl (i : Int) : Key) ≠ Sum.inl (n : Int)) = decide (i ≠ n)
  rw [Bool.eq_iff_iff, decide_eq_true_iff, decide_eq_true_iff]
  constructor
  · intro z y; exact z (by rw [y])
  · intro z y; exact z (by have := Sum.inl.inj y; omega)
theorem ok_be_gone {fa : Addr} {fd : FuncData} (F : Fun K "be_gone" "Hall.be_gone" s_Hall_be_gone fa fd) (T : Txt K mg CT CH) : FnOk P w K mg base CX0 1 fa fd ["self", "thing"] (lSp K (dBeGone CT CH en)) := by
  refine dok F sc_Hall_be_gone (fun ds S q qx ⟨H, s, n, e, _⟩ => by rw [e]; rfl) ⟨_, fun cdv A outer s H E hr => dss_cons (ds_expr (de_dpop (de_fld T.Hall_ (by decide +kernel) (de_var 0)) (de_fld T.Thing_ (by decide +kernel) (de_var 1))))
      (dss_one (ds_expr (de_ml PySem.F.slot_list_append PySem.F.type_list_append mt_append si_app (de_fld T.Hall_ (by decide +kernel) (de_var 0)) (da_cons (de_fld T.Thing_ (by decide +kernel) (de_var 1)) da_nil)))), fun ds S q qx ⟨H, s, n, hd, R, W, ht, hq⟩ => ?_⟩
  subst hd
  obtain ⟨h1, h2⟩ := W.tin n ht
  have e := hrep_t R h1 h2
  walk_at "dl"
  refine fldOf (hrep_hall R) ha_there (isDOf (hrep_th R) ?_)
  walk_at "dl"
  refine fldOf e th_number ?_
  walk_at "dl"
  obtain ⟨v, hv⟩ := Option.isSome_iff_exists.mp (there_some (H := H).trans (decide_eq_true ht))
  refine dpopOf (hrep_th R) rfl hv ?_
  rw [there_drop]
  have T1 := HTr.there R (s.there.filter fun i => decide (i ≠ n))
  walk_at "dl"
  refine fldOf (hrep_hall T1.rep) ha_left ?_
  walk_at "dl"
  have hl := hrep_lf T1.rep
  refine needOf (isLOf hl) ?_
  walk_at "dl"
  refine fldOf (hrep_t T1.rep h1 h2) th_number ?_
  walk_at "dl"
  refine appOf hl (by rw [List.length_map]; show s.left.length < _; have := W.len; have := W.most; omega) ?_
  have T2 := HTr.left T1.rep (s.left ++ [n])
  rw [List.map_append] at T2
  exact hq _ (T1.trans (T2.trans (HTr.ghost T2.rep rfl rfl)))
/-- a last is asked -/
def dAsk (CT CH : Addr) (en : Ed) (ask : AskR) : SpD := fun ds S k _ => ∃ (H : HA) (s : Hs) (n : Nat) (s' : Hs), ds = [.ref (H.a .hall), .ref (H.a (.t n))] ∧ HRep CT CH en H s S ∧ Wf s ∧ n ∈ s.there ∧ ask s n s' ∧ ∀ H' S', HTr CT CH en H s S H' s' S' → k .non S'
def dTurn (CT CH : Addr) (en : Ed) (ask : AskR) : SpD := fun ds S k _ => ∃ (H : HA) (s : Hs) (n : Nat) (s' : Hs), ds = [.ref (H.a .hall), .ref (H.a (.t n))] ∧ HRep CT CH en H s S ∧ Wf s ∧ 1 ≤ n ∧ n ≤ s.many ∧ s.row ≠ none ∧ (∀ l, s.row = some l → n ∉ l) ∧ Turn ask s n s' ∧ ∀ H' S', HTr CT CH en H s S H' s' S' → k .non S'
theorem ok_turn {La : Nat} {ask : AskR} (KA : AskOk ask) {fa : Addr} {fd : FuncData} (F : Fun K "turn" "Hall.turn" s_Hall_turn fa fd) (T : Txt K mg CT CH) (hL : 3 ≤ La) (G_Hall_ask_last : MDef P w K mg base La CH "ask_last" ["self", "thing"] (lSp K (dAsk CT CH en ask))) (G_Hall_be_gone : MDef P w K mg base 1 CH "be_gone" ["self", "thing"] (lSp K (dBeGone CT CH en)))
    (G_Hall_empty : MDef P w K mg base 3 CH "empty" ["self", "thing"] (lSp K (dEmpty CT CH en))) : FnOk P w K mg base CX0 (La + 1) fa fd ["self", "thing"] (lSp K (dTurn CT CH en ask)) := by
  refine dok F sc_Hall_turn (fun ds S q qx ⟨H, s, n, s', e, _⟩ => by rw [e]; rfl) ⟨_, fun cdv A outer s H E hr => dss_cons (ds_fld T.Thing_ (by decide +kernel) (de_var 1) (de_bl))
      (dss_cons (ds_if (PW.pt (dw_or (dt_cmp op_gt si_gt (de_fld T.Thing_ (by decide +kernel) (de_var 1)) (de_int) (nomark _)) (dw_or1 (dt_dinN (hu_of hr) (de_fld T.Thing_ (by decide +kernel) (de_var 1)) (de_fld T.Hall_ (by decide +kernel) (de_var 0))))))
        (dss_one (ds_retN))
        (dss_nil))
      (dss_cons (ds_fldaug T.Thing_ (by decide +kernel) (de_var 1) (de_int) in_add)
      (dss_cons (ds_expr (de_meth T.Hall_ G_Hall_ask_last (hr.mono (by omega)) (de_var 0) (da_cons (de_var 1) da_nil)))
      (dss_cons (ds_fldaug T.Thing_ (by decide +kernel) (de_var 1) (de_int) in_sub)
      (dss_one (ds_if (dt_cmp op_eq si_eq (de_fld T.Thing_ (by decide +kernel) (de_var 1)) (de_int) (nomark _))
        (dss_cons (ds_expr (de_meth T.Hall_ G_Hall_be_gone (hr.mono (by omega)) (de_var 0) (da_cons (de_var 1) da_nil)))
        (dss_one (ds_expr (de_meth T.Hall_ G_Hall_empty (hr.mono (by omega)) (de_var 0) (da_cons (de_var 1) da_nil)))))
        (dss_nil))))))), fun ds S q qx ⟨H, s, n, s', hd, R, W, h1, h2, hr, hn, ht, hq⟩ => ?_⟩
  subst hd
  have e := hrep_t R h1 h2
  walk_at "dl"
  refine fldsOf e (Nat.le_of_ble_eq_true rfl) ?_
  rw [th_waits']
  have hni : n ∉ s.waits.erase n := fun z => (List.Nodup.mem_erase_iff W.wnd).mp z |>.1 rfl
  have T1 := HTr.wait R h1 h2 (s.waits.erase n) fun i hi => List.mem_erase_of_ne hi
  rw [decide_eq_false hni] at T1
  have W1 : Wf (s.unwait n) := W.unwait hn
  walk_at "dl"
  refine fldOf put_same th_count ?_
  walk_at "dl"
  by_cases hc : 0 < s.cnt n
  · rw [decide_eq_true hc]
    walk_at "dl"
    cases ht with
    | pass _ => exact hq H _ T1
    | stay h _ _ => exact absurd (.inl hc) h
    | go h _ _ => exact absurd (.inl hc) h
  rw [decide_eq_false hc]
  walk_at "dl"
  refine fldOf put_same th_number ?_
  walk_at "dl"
  refine fldOf (hrep_hall T1.rep) ha_there ?_
  walk_at "dl"
  refine dninOf (hrep_th T1.rep) rfl ?_
  rw [there_some]
  by_cases hth : n ∈ s.there
  rotate_left
  · rw [decide_eq_false hth]
    walk_at "dl"
    cases ht with
    | pass _ => exact hq H _ T1
    | stay h _ _ => exact absurd (.inr hth) h
    | go h _ _ => exact absurd (.inr hth) h
  rw [decide_eq_true hth]
  walk_at "dl"
  refine fldOf put_same th_count ?_
  walk_at "dl"
  refine fldsOf put_same (Nat.le_of_ble_eq_true rfl) ?_
  rw [th_count']
  have T2 := HTr.cnt T1.rep h1 h2 (s.cnt n + 1)
  dsimp only at T2
  rw [decide_eq_false hni] at T2
  have T2' : HTr CT CH en H s S H ((s.unwait n).up n) _ := T1.trans (T2.trans (HTr.ghost T2.rep rfl rfl))
  have W2 : Wf ((s.unwait n).up n) := W1.up n
  walk_at "dl"
  refine needOf (methOf (x := .non) (hrep_hall T2'.rep) rfl) ?_
  walk_at "dl"
  obtain ⟨s1, ha, hend⟩ : ∃ s1, ask ((s.unwait n).up n) n s1 ∧ (((s1.down n).cnt n ≠ 0 ∧ s' = s1.down n) ∨ ((s1.down n).cnt n = 0 ∧ s' = (((s1.down n).gone n).emptied n (s1.parts n)).bare n)) := by
    cases ht with
    | pass h => exact absurd h (fun z => z.elim (fun y => hc y) fun y => y hth)
    | stay _ h1 h2 => exact ⟨_, h1, .inl ⟨h2, rfl⟩⟩
    | go _ h1 h2 => exact ⟨_, h1, .inr ⟨h2, rfl⟩⟩
  refine ⟨H, _, n, s1, rfl, T2'.rep, W2, hth, ha, fun H1 S1 T3 => ?_⟩
  have m1 : s.many ≤ s1.many := by have := KA.many ha; exact this
  have W3 := KA.wf ha W2 hth
  have et : H1.a (.t n) = H.a (.t n) := T3.t h1 h2
  have eh : H1.a .hall = H.a .hall := T3.hall
  have e3 := hrep_t T3.rep h1 (Nat.le_trans h2 m1)
  rw [et] at e3
  walk_at "dl"
  refine fldOf e3 th_count ?_
  walk_at "dl"
  refine fldsOf e3 (Nat.le_of_ble_eq_true rfl) ?_
  rw [th_count']
  have T4 := HTr.cnt T3.rep h1 (Nat.le_trans h2 m1) (s1.cnt n - 1)
  rw [et] at T4
  have T5 : HTr CT CH en H s S H1 (s1.down n) _ := (T2'.trans T3).trans (T4.trans (HTr.ghost T4.rep rfl rfl))
  have ed : (s1.down n).cnt n = s1.cnt n - 1 := DL.fset_same
  walk_at "dl"
  refine fldOf put_same th_count ?_
  walk_at "dl"
  rcases hend with ⟨hne, rfl⟩ | ⟨hz, rfl⟩
  · rw [ed] at hne
    rw [decide_eq_false hne]
    walk_at "dl"
    exact hq H1 _ T5
  · rw [ed] at hz
    rw [decide_eq_true hz]
    have hh := hrep_hall T5.rep
    rw [eh] at hh
    walk_at "dl"
    refine needOf (methOf (x := .non) hh rfl) ?_
    walk_at "dl"
    have hth1 := KA.stay ha hth
    have W5 := W3.down n
    refine ⟨H1, s1.down n, n, by rw [eh, et], T5.rep, W5, hth1, fun S6 T6 => ?_⟩
    have hh6 := hrep_hall T6.rep
    rw [eh] at hh6
    walk_at "dl"
    refine needOf (methOf (x := .non) hh6 rfl) ?_
    walk_at "dl"
    refine ⟨H1, _, n, by rw [eh, et], T6.rep, W5.gone hth1, h1, Nat.le_trans h2 m1, ?_, fun S7 T7 => hq H1 S7 (T5.trans (T6.trans (T7.trans (HTr.ghost T7.rep rfl rfl))))⟩
    show s1.row ≠ none
    rw [KA.row ha]
    exact hr
def dWork (CT CH : Addr) (en : Ed) (ask : AskR) : SpD := fun ds S k _ => ∃ (H : HA) (s : Hs) (f : Nat) (s' : Hs), ds = [.ref (H.a .hall)] ∧ HRep CT CH en H s S ∧ Wf s ∧ Work ask f s s' ∧ ∀ H' S', HTr CT CH en H s S H' s' S' → k .non S'
theorem Turn.row {ask : AskR} (KA : AskOk ask) {s s' : Hs} {n : Nat} (t : Turn ask s n s') (h : s.row ≠ none) : s'.row ≠ none := by
  cases t with
  | pass _ => exact h
  | stay h1 h2 h3 =>
    intro z
    have := KA.row h2
    exact h (by rw [← show _ = s.row from this]; exact z)
  | go h1 h2 h3 =>
    intro z
    have := KA.row h2
    have z2 := (emptied_row _ _).mp z
    exact h (by rw [← show _ = s.row from this]; exact z2)
theorem ok_work {L : Nat} {ask : AskR} (KA : AskOk ask) {fa : Addr} {fd : FuncData} (F : Fun K "work" "Hall.work" s_Hall_work fa fd) (T : Txt K mg CT CH) (G_Hall_turn : MDef P w K mg base L CH "turn" ["self", "thing"] (lSp K (dTurn CT CH en ask))) :
    FnOk P w K mg base CX0 (L + 1) fa fd ["self"] (lSp K (dWork CT CH en ask)) := by
  refine dok F sc_Hall_work (fun ds S q qx ⟨H, s, f, s', e, _⟩ => by rw [e]; rfl) ⟨_, fun cdv A outer s H E hr => dss_cons (ds_while PassesOwn.never (dt_cmp op_gt si_gt (de_callB call_len (si_len rfl) (by rfl) T.len (by decide +kernel) (da_cons (de_fld T.Hall_ (by decide +kernel) (de_var 0)) da_nil)) (de_int) (nomark _))
        (dss_one (ds_expr (de_meth T.Hall_ G_Hall_turn (hr.mono (by omega)) (de_var 0) (da_cons (de_ml PySem.F.slot_list_pop PySem.F.type_list_pop mt_popAt si_pop0 (de_fld T.Hall_ (by decide +kernel) (de_var 0)) (da_cons (de_int) da_nil)) da_nil)))))
      (dss_one (ds_fld T.Hall_ (by decide +kernel) (de_var 0) (de_non))), fun ds S q qx ⟨H, s, f, s', hd, R, W, hw, hq⟩ => ?_⟩
  subst hd
  walk_at "dl"
  refine whlOf (fun f δ S' => ∃ H' si, δ = [some (.ref (H.a .hall))] ∧ HTr CT CH en H s S H' si S' ∧ Wf si ∧ Work ask f si s') f ⟨H, s, rfl, HTr.refl R, W, hw⟩ ?_
  rintro f δ S' ⟨H', si, rfl, T1, W1, hw⟩
  have hh := hrep_hall T1.rep
  rw [T1.hall] at hh
  cases hw with
  | done h =>
    have hrow := hrep_row T1.rep h
    rw [h] at hh
    walk_at "dl"
    refine fldOf hh ha_row ?_
    simp only [rowD]
    walk_at "dl"
    refine lenRf hrow ?_
    walk_at "dl"
    rw [show decide ((0 : Int) < ((0 : Nat) : Int)) = false from rfl]
    walk_at "dl"
    refine fldsOf hh (Nat.le_of_ble_eq_true rfl) ?_
    rw [ha_row']
    have T2 := HTr.noRow T1.rep
    rw [T1.hall] at T2
    walk_at "dl"
    exact hq H' _ (T1.trans T2)
  | @step f n r _ s1 _ h1 h2 h3 =>
    have hrow := hrep_row T1.rep h1
    rw [h1] at hh
    walk_at "dl"
    refine fldOf hh ha_row ?_
    simp only [rowD]
    walk_at "dl"
    refine lenRf hrow ?_
    walk_at "dl"
    rw [show decide ((0 : Int) < (((r.map fun n => D.ref (H'.a (.t n))).length + 1 : Nat) : Int)) = true from decide_eq_true (by omega)]
    walk_at "dl"
    refine needOf (methOf (x := .non) hh rfl) ?_
    walk_at "dl"
    refine fldOf hh ha_row ?_
    simp only [rowD]
    walk_at "dl"
    refine needOf (isLOf hrow) ?_
    walk_at "dl"
    refine pop0Of hrow ?_
    have T2 := HTr.setRow T1.rep h1 r
    obtain ⟨w1, w2, w3⟩ := W1.rowTail h1
    have hb := W1.win n w3
    walk_at "dl"
    refine ⟨H', _, n, s1, by rw [T1.hall], T2.rep, w1, hb.1, hb.2, nofun, fun l hl => (by cases hl; exact w2), h2, fun H2 S2 T3 => ⟨f, Nat.lt_succ_self f, H2, s1, rfl, (T1.trans T2).trans T3, (Turn.wf KA h2 w1 fun l hl => (by cases hl; exact w2)).1, h3⟩⟩
/-- a thing whose last hold is loosed -/
def dLetGo (CT CH : Addr) (en : Ed) (ask : AskR) : SpD := fun ds S k _ => ∃ (H : HA) (s : Hs) (n : Nat) (s' : Hs), ds = [.ref (H.a .hall), .ref (H.a (.t n))] ∧ HRep CT CH en H s S ∧ Wf s ∧ 1 ≤ n ∧ n ≤ s.many ∧ s.cnt n = 0 ∧
  ((s.enqs n = false ∧ s' = s) ∨ (s.enqs n = true ∧ s.row ≠ none ∧ s' = s.enq n) ∨ (s.enqs n = true ∧ s.row = none ∧ ∃ f, Work ask f { s.enq n with row := some [n] } s')) ∧ ∀ H' S', HTr CT CH en H s S H' s' S' → k .non S'
theorem ok_let_go {L : Nat} {ask : AskR} (KA : AskOk ask) {fa : Addr} {fd : FuncData} (F : Fun K "let_go" "Hall.let_go" s_Hall_let_go fa fd) (T : Txt K mg CT CH) (G_Hall_work : MDef P w K mg base L CH "work" ["self"] (lSp K (dWork CT CH en ask))) : FnOk P w K mg base CX0 (L + 1) fa fd ["self", "thing"] (lSp K (dLetGo CT CH en ask)) := by
  refine dok F sc_Hall_let_go (fun ds S q qx ⟨H, s, n, s', e, _⟩ => by rw [e]; rfl) ⟨_, fun cdv A outer s H E hr => dss_cons (ds_if (PW.pt (dw_or (dt_val (de_fld T.Thing_ (by decide +kernel) (de_var 1))) (dw_or1 (dt_dinN (hu_of hr) (de_fld T.Thing_ (by decide +kernel) (de_var 1)) (de_fld T.Hall_ (by decide +kernel) (de_var 0))))))
        (dss_one (ds_retN))
        (dss_nil))
      (dss_cons (ds_fld T.Thing_ (by decide +kernel) (de_var 1) (de_bl))
      (dss_one (ds_if (dt_cmp op_isN si_isN (de_fld T.Hall_ (by decide +kernel) (de_var 0)) (de_non) (nomark _))
        (dss_cons (ds_fld T.Hall_ (by decide +kernel) (de_var 0) (de_new (da_cons (de_var 1) da_nil)))
        (dss_one (ds_expr (de_meth0 T.Hall_ G_Hall_work (hr.mono (by omega)) (de_var 0)))))
        (dss_one (ds_expr (de_ml PySem.F.slot_list_append PySem.F.type_list_append mt_append si_app (de_fld T.Hall_ (by decide +kernel) (de_var 0)) (da_cons (de_var 1) da_nil))))))), fun ds S q qx ⟨H, s, n, s', hd, R, W, h1, h2, hc, ht, hq⟩ => ?_⟩
  subst hd
  have e := hrep_t R h1 h2
  walk_at "dl"
  refine fldOf e th_waits ?_
  by_cases hw : n ∈ s.waits
  · rw [decide_eq_true hw]
    have hf : s.enqs n = false := by unfold Hs.enqs; simp [hw]
    walk_at "dl"
    rcases ht with ⟨_, rfl⟩ | ⟨h, _⟩ | ⟨h, _⟩
    · exact hq H _ (HTr.refl R)
    · rw [hf] at h; cases h
    · rw [hf] at h; cases h
  rw [decide_eq_false hw]
  walk_at "dl"
  refine fldOf e th_number ?_
  walk_at "dl"
  refine fldOf (hrep_hall R) ha_there ?_
  walk_at "dl"
  refine dninOf (hrep_th R) rfl ?_
  rw [there_some]
  by_cases hth : n ∈ s.there
  rotate_left
  · rw [decide_eq_false hth]
    have hf : s.enqs n = false := by unfold Hs.enqs; simp [hth]
    walk_at "dl"
    rcases ht with ⟨_, rfl⟩ | ⟨h, _⟩ | ⟨h, _⟩
    · exact hq H _ (HTr.refl R)
    · rw [hf] at h; cases h
    · rw [hf] at h; cases h
  rw [decide_eq_true hth]
  have hf : s.enqs n = true := by unfold Hs.enqs; simp [hth, hw, hc]
  walk_at "dl"
  refine fldsOf e (Nat.le_of_ble_eq_true rfl) ?_
  rw [th_waits']
  have T1 := HTr.wait R h1 h2 (s.waits ++ [n]) fun i hi => by simp [hi]
  rw [decide_eq_true (show n ∈ s.waits ++ [n] by simp)] at T1
  have hh := hrep_hall T1.rep
  dsimp only at hh
  rcases ht with ⟨h, _⟩ | ⟨_, hr, rfl⟩ | ⟨_, hr, f, hwk⟩
  · rw [hf] at h; cases h
  · obtain ⟨l, hl⟩ : ∃ l, s.row = some l := Option.ne_none_iff_exists'.mp hr
    rw [hl] at hh
    walk_at "dl"
    refine fldOf hh ha_row ?_
    simp only [rowD]
    walk_at "dl"
    refine fldOf hh ha_row ?_
    simp only [rowD]
    walk_at "dl"
    have hrow := hrep_row T1.rep (l := l) hl
    refine needOf (isLOf hrow) ?_
    walk_at "dl"
    refine appOf hrow (by rw [List.length_map]; have := row_len W hl; omega) ?_
    have T2 := HTr.setRow T1.rep (l0 := l) hl (l ++ [n])
    rw [List.map_append] at T2
    refine hq H _ (T1.trans ?_)
    have : s.enq n = { s with waits := s.waits ++ [n], row := some (l ++ [n]) } := by unfold Hs.enq; rw [hl]; rfl
    rw [this]
    exact T2
  · rw [hr] at hh
    walk_at "dl"
    refine fldOf hh ha_row ?_
    simp only [rowD]
    walk_at "dl"
    refine freshOf fun p hp => ?_
    have np : H.a .hall ≠ p := sto_ne hh hp
    walk_at "dl"
    refine fldsOf (by rw [put_ne np]; exact hh) (Nat.le_of_ble_eq_true rfl) ?_
    rw [ha_row']
    have T2 := HTr.begun T1.rep hr hp [n]
    walk_at "dl"
    have hh2 := hrep_hall T2.rep
    rw [T2.hall] at hh2
    refine needOf (methOf (x := .non) hh2 rfl) ?_
    walk_at "dl"
    have W1 := W.enq hf
    exact ⟨_, _, f, s', by rw [T2.hall], T2.rep, ⟨W1.nd, W1.tin, W1.len, W1.most, W1.key, W1.plen, W1.pv, W1.wnd, W1.win, fun l hl => by
      cases hl
      exact ⟨by simp, fun i hi => by rw [List.mem_singleton.mp hi]; exact List.mem_append_right _ (List.mem_singleton.mpr rfl)⟩, W1.pz, W1.az, W1.kok, W1.eb, W1.an, W1.bs⟩, hwk, fun H' S' T3 => hq H' S' ((T1.trans T2).trans T3)⟩
def dLoose (CT CH : Addr) (en : Ed) (ask : AskR) : SpD := fun ds S k _ => ∃ (H : HA) (s : Hs) (v : Vl) (s' : Hs), ds = [.ref (H.a .hall), vD H v] ∧ HRep CT CH en H s S ∧ Wf s ∧ VOk s.many v ∧ Loose ask s v s' ∧ ∀ H' S', HTr CT CH en H s S H' s' S' → k .non S'
theorem ok_loose {L : Nat} {ask : AskR} {fa : Addr} {fd : FuncData} (F : Fun K "loose" "Hall.loose" s_Hall_loose fa fd) (T : Txt K mg CT CH) (G_Hall_let_go : MDef P w K mg base L CH "let_go" ["self", "thing"] (lSp K (dLetGo CT CH en ask))) : FnOk P w K mg base CX0 (L + 1) fa fd ["self", "value"] (lSp K (dLoose CT CH en ask)) := by
  refine dok F sc_Hall_loose (fun ds S q qx ⟨H, s, v, s', e, _⟩ => by rw [e]; rfl) ⟨_, fun cdv A outer s H E hr => dss_one (ds_if (dt_val (de_callB (clIsi' (K := K)) (si_isiC T.ThingI) (by rfl) T.isinstance (by decide +kernel) (da_cons (de_var 1) (da_cons (de_gl (by rfl) T.Thing) da_nil))))
        (dss_cons (ds_fldaug T.Thing_ (by decide +kernel) (de_var 1) (de_int) in_sub)
        (dss_one (ds_if (dt_cmp op_eq si_eq (de_fld T.Thing_ (by decide +kernel) (de_var 1)) (de_int) (nomark _))
          (dss_one (ds_expr (de_meth T.Hall_ G_Hall_let_go (hr.mono (by omega)) (de_var 0) (da_cons (de_var 1) da_nil))))
          (dss_nil))))
        (dss_nil)), fun ds S q qx ⟨H, s, v, s', hd, R, W, hv, ht, hq⟩ => ?_⟩
  subst hd
  cases v with
  | no d =>
    have hn : NoTh d := hv
    cases ht
    walk_at "dl"
    cases hn <;> (simp only [vD]; walk_at "dl"; exact hq H _ (HTr.refl R))
  | th n =>
    have e := hrep_t R hv.1 hv.2
    walk_at "dl"
    simp only [vD]
    rw [x_own e]
    walk_at "dl"
    refine fldOf e th_count ?_
    walk_at "dl"
    refine fldsOf e (Nat.le_of_ble_eq_true rfl) ?_
    rw [th_count']
    have T1 : HTr CT CH en H s S H (s.dec n) _ := HTr.cnt R hv.1 hv.2 (s.cnt n - 1)
    walk_at "dl"
    refine fldOf put_same th_count ?_
    walk_at "dl"
    have ed : (s.dec n).cnt n = s.cnt n - 1 := DL.fset_same
    by_cases z : s.cnt n - 1 = 0
    · rw [decide_eq_true z]
      walk_at "dl"
      refine needOf (methOf (x := .non) (hrep_hall T1.rep) rfl) ?_
      walk_at "dl"
      refine ⟨H, s.dec n, n, s', rfl, T1.rep, W.dec n, hv.1, hv.2, by rw [ed]; exact z, ?_, fun H' S' T2 => hq H' S' (T1.trans T2)⟩
      cases ht with
      | kept h => exact .inl ⟨h, rfl⟩
      | wait h h' => exact .inr (.inl ⟨h, h', rfl⟩)
      | work h h' hw => exact .inr (.inr ⟨h, h', _, hw⟩)
    · rw [decide_eq_false z]
      have hf : (s.dec n).enqs n = false := by unfold Hs.enqs; rw [ed]; simp [z]
      walk_at "dl"
      cases ht with
      | kept h => exact hq H _ T1
      | wait h h' => rw [hf] at h; cases h
      | work h h' hw => rw [hf] at h; cases h
end
end K

set_option Elab.async false
set_option linter.all false
set_option maxRecDepth 100000
namespace K
open PySem L2 Evl EX DL HM
section
variable {P : Program} {w : World} {K : PySem.W.Frag} {mg : Str → Option Value} {base : Heap} {CT CH : Addr} {en : Ed}
local macro_rules | `(tactic| walk_at "dl") => `(tactic| try simp only [↓x_forS, ↓x_diSL, ↓x_diKeys, ↓x_lock, ↓x_dictP, ↓x_fld, ↓x_fldS, ↓x_fldA, ↓x_meth, ↓x_make, ↓x_dget, ↓x_din, ↓x_dget1, ↓x_dget2, ↓x_dpop, ↓x_dput, ↓x_listD, ↓x_sortDI, ↓x_lenD, ↓x_isiC, x_icS, x_icI, x_icB, x_icN, x_ioS, x_ioI, x_ioB, x_ioN, ↓x_gSub, ↓x_sortDL, ↓x_eqO, ↓x_ninA, x_catN, x_isBB, x_isBN, x_isBI, x_isBS, x_isBR, ↓x_seq, ↓x_nx, ↓x_pass, ↓x_brk, ↓x_cnt, ↓x_drop, ↓x_ret, ↓x_retN, ↓x_ifS, ↓x_set, ↓x_asg, ↓x_gN, ↓x_gT, ↓x_gsC, ↓x_gsN, ↓x_var, x_rdv, ↓x_c, ↓x_op, ↓x_test, x_tst, ↓x_and, ↓x_or, ↓x_not, ↓x_andV, ↓x_orV, ↓x_notV, x_tstV, ↓x_ifE, x_true, x_false, ↓x_nil, ↓x_cons, ↓x_tup, ↓x_lst, ↓x_new, ↓x_newD, ↓x_call, ↓x_cb, x_oI, x_oIc, x_oS, x_addS, x_isN, x_notN, x_eqI, x_eqS, x_eqIS, x_eqSI, x_eqNS, x_neI, x_neS, x_neB, x_eqB, x_few, x_need, ↓x_ix, x_lenS, x_ixL0, x_ixT0, x_ixT1, x_ixT2, x_ixT3, x_ixT4, x_lenL, x_lenT, x_lenC, x_listL, x_listT, x_tupL, x_tupT, x_strI, x_strS, x_int1, x_intB, x_I1, x_I2, x_cat, x_catT, ↓x_split, ↓x_for, ↓x_cut, ↓x_lc, ↓x_whl, ↓x_diL, ↓x_diT, ↓x_diS, x_itL, x_itC, x_itT, x_itS, ↓x_diR1, ↓x_diR2, ↓x_diE, x_enmL, x_enmC, ↓x_gcN, ↓x_gcT, ↓x_yes, ↓x_ml, ↓x_ms, x_strq, x_ss, x_ssc, x_ssi, ↓x_join, ↓x_aug, x_st2I, ↓x_sl, ↓x_noP, ↓x_part, x_intq, x_slL, x_slC, x_slS, ↓x_in, x_inT, x_inL, x_ninT, x_ninL, x_inN, x_inSS, x_inSI, x_inIS, x_inII, ↓x_sg, x_sgS, x_nsgS, ↓x_eqD, ↓x_inDD, x_mulS, ↓x_isi, x_isiS, x_isiI, x_isiB, x_isiN, x_isiL, x_isiT, ↓x_isTT, x_itI, x_itStr, x_itN, x_itB, x_itLst, x_itTup, ↓x_any, ↓x_all, ↓x_sum, ↓x_srtI, ↓x_srtS, ↓x_intS, ↓x_lenRf, ↓x_tupRf, ↓x_frz', x_flS, x_flI, x_flN, x_flB, x_cs_bool, x_isB_NoneType_bool, x_isB_bool_bool, x_isB_int_bool, x_isB_str_bool, x_isB_list_bool, x_isB_tuple_bool, x_isB_dict_bool, x_cs_int, x_isB_NoneType_int, x_isB_bool_int, x_isB_int_int, x_isB_str_int, x_isB_list_int, x_isB_tuple_int, x_isB_dict_int, x_cs_str, x_isB_NoneType_str, x_isB_bool_str, x_isB_int_str, x_isB_str_str, x_isB_list_str, x_isB_tuple_str, x_isB_dict_str, x_cs_list, x_isB_NoneType_list, x_isB_bool_list, x_isB_int_list, x_isB_str_list, x_isB_list_list, x_isB_tuple_list, x_isB_dict_list, x_cs_tuple, x_isB_NoneType_tuple, x_isB_bool_tuple, x_isB_int_tuple, x_isB_str_tuple, x_isB_list_tuple, x_isB_tuple_tuple, x_isB_dict_tuple, x_cs_dict, x_isB_NoneType_dict, x_isB_bool_dict, x_isB_int_dict, x_isB_str_dict, x_isB_list_dict, x_isB_tuple_dict, x_isB_dict_dict, List.all_cons, List.all_nil, Bool.and_self, Bool.or_false, Bool.or_true, Bool.false_or, Bool.true_or, wipeD, setD, DL.isNon, List.set_cons_zero, List.set_cons_succ, List.getElem?_cons_zero, List.getElem?_cons_succ, List.length_cons, List.length_nil, Nat.zero_add, List.cons_append, List.nil_append, decide_true, decide_false, Bool.not_true, Bool.not_false, true_and, and_true, startD, List.map_cons, List.map_nil, Nat.reduceSub, Nat.reduceLeDiff, Nat.zero_le, Int.reduceLT, Int.reduceLE, and_self, Nat.reduceAdd, List.replicate])
def dMake (CT CH : Addr) (en : Ed) : SpD := fun ds S k _ => ∃ (H : HA) (s : Hs) (form : Str) (own : D), ds = [.ref (H.a .hall), .str form, own] ∧ HRep CT CH en H s S ∧ Wf s ∧ ∀ H' S', HTr CT CH en H s S H' (s.made (.str form) own) S' → k (.ref (H'.a (.t (s.many + 1)))) S'
theorem there_new {H : HA} {s : Hs} (W : Wf s) : gval (s.there.map fun n : Nat => ((.inl (n : Int), .ref (H.a (.t n))) : Key × D)) (.inl ((s.many : Int) + 1)) = none := by
  unfold gval
  rw [Option.map_eq_none_iff, List.find?_eq_none]
  intro x hx
  obtain ⟨n, hn, rfl⟩ := List.mem_map.mp hx
  have := W.tin n hn
  rw [decide_eq_true_iff]
  intro z
  have := Sum.inl.inj z
  omega
theorem ok_make {fa : Addr} {fd : FuncData} (F : Fun K "make" "Hall.make" s_Hall_make fa fd) (T : Txt K mg CT CH) (G_mk_Thing : MkDef P w K mg base 1 "Thing" CT ["self", "form", "number", "own"] (lSp K (dThInit CT))) :
    FnOk P w K mg base CX0 3 fa fd ["self", "form", "own"] (lSp K (dMake CT CH en)) := by
  refine dok F sc_Hall_make (fun ds S q qx ⟨H, s, form, own, e, _⟩ => by rw [e]; rfl) ⟨_, fun cdv A outer s H E hr => dss_cons (ds_fldaug T.Hall_ (by decide +kernel) (de_var 0) (de_int) in_add)
      (dss_cons (ds_set (i := 3) sc_Hall_make.nd rfl (Or.inl rfl) (de_make G_mk_Thing (hr.mono (by decide)) (by rfl) (da_cons (de_var 1) (da_cons (de_fld T.Hall_ (by decide +kernel) (de_var 0)) (da_cons (de_var 2) da_nil)))))
      (dss_cons (ds_dput (hu_of hr) (de_fld T.Hall_ (by decide +kernel) (de_var 0)) (de_fld T.Thing_ (by decide +kernel) (de_var 3)) (de_var 3))
      (dss_one (ds_ret (de_var 3))))), fun ds S q qx ⟨H, s, form, own, hd, R, W, hq⟩ => ?_⟩
  subst hd
  have hh := hrep_hall R
  have ht := hrep_th R
  have nht : H.a .hall ≠ H.a .th := R.ne nofun nofun nofun
  walk_at "dl"
  refine fldOf hh ha_many ?_
  walk_at "dl"
  refine fldsOf hh (Nat.le_of_ble_eq_true rfl) ?_
  rw [ha_many']
  walk_at "dl"
  refine fldOf put_same ha_many ?_
  walk_at "dl"
  refine freshOf fun t n1 dt => ?_
  have nth : H.a .hall ≠ t := sto_ne put_same n1
  rw [put_ne nth.symm] at n1
  refine ⟨t, dt, form, (s.many : Int) + 1, own, rfl, put_same, fun pd n2 => ⟨rfl, ?_⟩⟩
  have ntp : t ≠ pd := sto_ne put_same n2
  rw [put_ne ntp.symm] at n2
  have nhp : H.a .hall ≠ pd := sto_ne put_same n2
  rw [put_ne nhp.symm] at n2
  have e1 : H.a .th ≠ t := sto_ne ht n1
  have e2 : H.a .th ≠ pd := sto_ne ht n2
  walk_at "dl"
  refine fldOf (by rw [put_ne nth, put_ne nhp, put_ne nth]; exact put_same) ha_there ?_
  walk_at "dl"
  refine fldOf put_same th_number ?_
  walk_at "dl"
  refine dputOf (kvs := s.there.map fun n : Nat => ((.inl (n : Int), .ref (H.a (.t n))) : Key × D)) (by rw [put_ne e1, put_ne e2, put_ne e1, put_ne nht.symm]; exact ht) rfl (by rw [List.length_map]; have := W.len; have := W.most; omega) ?_
  rw [gput_new (there_new W)]
  walk_at "dl"
  have key : ∀ S' : Sto, S' t = some (.ins CT dt (thFs (.str form) (.int ((s.many : Int) + 1)) (.int 0) (.ref pd) own (.bl false) (.bl false))) → S' pd = some (.dct []) → S' (H.a .hall) = some (.ins CH H.dx (haFs (en.d fun i => H.a (.x i)) (.int ((s.many : Int) + 1)) (.ref (H.a .th)) (.ref (H.a .lf)) (rowD H s.row) (.int (s.lasts : Int)))) →
      S' (H.a .th) = some (.dct (s.there.map (fun n : Nat => ((.inl (n : Int), .ref (H.a (.t n))) : Key × D)) ++ [((.inl ((s.many : Int) + 1) : Key), .ref t)])) → (∀ b, b ≠ t → b ≠ pd → b ≠ H.a .hall → b ≠ H.a .th → S' b = S b) → q (.ref t) S' := fun S' g1 g2 g3 g4 g5 => by
    have T1 := HTr.make (form := .str form) (own := own) R W (t := t) (pd := pd) (dt := dt) (W.pz _ (Nat.lt_succ_self _)) (fun z => by have := W.win _ z; omega) (fun z => by have := W.az _ z; omega) n1 n2 ntp g1 g2 g3 g4 g5
    have := hq _ _ T1
    rw [show (({ H with a := fun x => if x = HL.t (s.many + 1) then t else if x = .pd (s.many + 1) then pd else H.a x, dt := DL.fset H.dt (s.many + 1) dt } : HA).a (.t (s.many + 1))) = t from if_pos rfl] at this
    exact this
  refine key _ ?_ ?_ ?_ put_same fun b b1 b2 b3 b4 => ?_
  · rw [put_ne e1.symm]; exact put_same
  · rw [put_ne e2.symm, put_ne ntp.symm]; exact put_same
  · rw [put_ne nht, put_ne nth, put_ne nhp, put_ne nth]; exact put_same
  · rw [put_ne b4, put_ne b1, put_ne b2, put_ne b1, put_ne b3]
theorem gval_vD {H : HA} {l : List (Key × Vl)} {k : Key} : gval (l.map fun kv => ((kv.1, vD H kv.2) : Key × D)) k = (gval l k).map (vD H) := by
  induction l with
  | nil => rfl
  | cons kv l ih =>
    unfold gval at ih ⊢
    rw [List.map_cons, List.find?_cons, List.find?_cons]
    by_cases z : kv.1 = k
    · simp only [z, decide_true]
      rfl
    · simp only [z, decide_false]
      exact ih
theorem gput_vD {H : HA} {l : List (Key × Vl)} {k : Key} {v : Vl} : gput (l.map fun kv => ((kv.1, vD H kv.2) : Key × D)) k (vD H v) = (gput l k v).map fun kv => ((kv.1, vD H kv.2) : Key × D) := by
  unfold gput
  have : ((l.map fun kv => ((kv.1, vD H kv.2) : Key × D)).any fun kv => decide (kv.1 = k)) = l.any fun kv => decide (kv.1 = k) := by rw [List.any_map]; rfl
  rw [this]
  split
  · rw [List.map_map, List.map_map]
    refine List.map_congr_left fun kv _ => ?_
    show (if kv.1 = k then (kv.1, vD H v) else (kv.1, vD H kv.2)) = ((if kv.1 = k then (kv.1, v) else kv).1, vD H (if kv.1 = k then (kv.1, v) else kv).2)
    split <;> rfl
  · rw [List.map_append]
    rfl
theorem gdrop_vD {H : HA} {l : List (Key × Vl)} {k : Key} : gdrop (l.map fun kv => ((kv.1, vD H kv.2) : Key × D)) k = (gdrop l k).map fun kv => ((kv.1, vD H kv.2) : Key × D) := by
  unfold gdrop
  rw [List.filter_map]
  rfl
def dPut (CT CH : Addr) (en : Ed) (ask : AskR) : SpD := fun ds S k _ => ∃ (H : HA) (s : Hs) (n : Nat) (key : D) (ky : Key) (v : Vl) (s' : Hs), ds = [.ref (H.a .hall), .ref (H.a (.t n)), key, vD H v] ∧ HRep CT CH en H s S ∧ Wf s ∧ 1 ≤ n ∧ n ≤ s.many ∧ keyD key = some ky ∧ (dK ky).any = true ∧ VOk s.many v ∧ (s.parts n).length < 90000 ∧
  Loose ask (s.putP n ky v) (oldP s n ky) s' ∧ ∀ H' S', HTr CT CH en H s S H' s' S' → k .non S'
theorem ok_put {L : Nat} {ask : AskR} (hL : 1 ≤ L) {fa : Addr} {fd : FuncData} (F : Fun K "put" "Hall.put" s_Hall_put fa fd) (T : Txt K mg CT CH) (G_Hall_hold : MDef P w K mg base 1 CH "hold" ["self", "value"] (lSp K (dHold CT CH en))) (G_Hall_loose : MDef P w K mg base L CH "loose" ["self", "value"] (lSp K (dLoose CT CH en ask))) :
    FnOk P w K mg base CX0 (L + 1) fa fd ["self", "thing", "key", "value"] (lSp K (dPut CT CH en ask)) := by
  refine dok F sc_Hall_put (fun ds S q qx ⟨H, s, n, key, ky, v, s', e, _⟩ => by rw [e]; rfl) ⟨_, fun cdv A outer s H E hr => dss_cons (ds_set (i := 4) sc_Hall_put.nd rfl (Or.inl rfl) (de_dgets1 (hu_of hr) (de_fld T.Thing_ (by decide +kernel) (de_var 1)) (de_var 2)))
      (dss_cons (ds_expr (de_meth T.Hall_ G_Hall_hold (hr.mono (by omega)) (de_var 0) (da_cons (de_var 3) da_nil)))
      (dss_cons (ds_dput (hu_of hr) (de_fld T.Thing_ (by decide +kernel) (de_var 1)) (de_var 2) (de_var 3))
      (dss_one (ds_expr (de_meth T.Hall_ G_Hall_loose (hr.mono (by omega)) (de_var 0) (da_cons (de_var 4) da_nil)))))), fun ds S q qx ⟨H, s, n, key, ky, v, s', hd, R, W, h1, h2, hk, hka, hv, hl, ht, hq⟩ => ?_⟩
  subst hd
  have hp := hrep_pd R h1 h2
  walk_at "dl"
  refine fldOf (hrep_t R h1 h2) th_parts (isDOf hp ?_)
  walk_at "dl"
  refine dgorOf hp hk ?_
  have eo : (gval ((s.parts n).map fun kv => ((kv.1, vD H kv.2) : Key × D)) ky).getD .non = vD H (oldP s n ky) := by
    rw [gval_vD]
    unfold oldP
    cases gval (s.parts n) ky <;> rfl
  rw [eo]
  walk_at "dl"
  refine needOf (methOf (x := .non) (hrep_hall R) rfl) ?_
  walk_at "dl"
  refine ⟨H, s, v, rfl, R, hv, fun S1 T1 => ?_⟩
  have h2' : n ≤ (s.held v).many := by rw [held_many]; exact h2
  have hp1 := hrep_pd T1.rep h1 h2'
  rw [held_parts] at hp1
  walk_at "dl"
  refine fldOf (hrep_t T1.rep h1 h2') th_parts ?_
  walk_at "dl"
  refine dputOf hp1 hk (by rw [List.length_map]; omega) ?_
  rw [gput_vD]
  have T2 := HTr.parts T1.rep h1 h2' (gput (s.parts n) ky v)
  rw [held_parts] at T2
  have T2' : HTr CT CH en H s S H (s.putP n ky v) _ := T1.trans T2
  have W2 := W.putP (k := ky) h2 hv hka hl
  walk_at "dl"
  refine needOf (methOf (x := .non) (hrep_hall T2'.rep) rfl) ?_
  walk_at "dl"
  refine ⟨H, s.putP n ky v, oldP s n ky, s', rfl, T2'.rep, W2, ?_, ht, fun H' S' T3 => hq H' S' (T2'.trans T3)⟩
  have := oldP_ok W n ky
  show VOk (s.held v).many _
  rw [held_many]
  exact this
def dTake (CT CH : Addr) (en : Ed) (ask : AskR) : SpD := fun ds S k _ => ∃ (H : HA) (s : Hs) (n : Nat) (key : D) (ky : Key) (v : Vl) (s' : Hs), ds = [.ref (H.a .hall), .ref (H.a (.t n)), key] ∧ HRep CT CH en H s S ∧ Wf s ∧ 1 ≤ n ∧ n ≤ s.many ∧ keyD key = some ky ∧ gval (s.parts n) ky = some v ∧
  Loose ask (s.dropP n ky) v s' ∧ ∀ H' S', HTr CT CH en H s S H' s' S' → k .non S'
theorem ok_take {L : Nat} {ask : AskR} {fa : Addr} {fd : FuncData} (F : Fun K "take" "Hall.take" s_Hall_take fa fd) (T : Txt K mg CT CH) (G_Hall_loose : MDef P w K mg base L CH "loose" ["self", "value"] (lSp K (dLoose CT CH en ask))) :
    FnOk P w K mg base CX0 (L + 1) fa fd ["self", "thing", "key"] (lSp K (dTake CT CH en ask)) := by
  refine dok F sc_Hall_take (fun ds S q qx ⟨H, s, n, key, ky, v, s', e, _⟩ => by rw [e]; rfl) ⟨_, fun cdv A outer s H E hr => dss_one (ds_expr (de_meth T.Hall_ G_Hall_loose (hr.mono (by omega)) (de_var 0) (da_cons (de_dpop (de_fld T.Thing_ (by decide +kernel) (de_var 1)) (de_var 2)) da_nil))), fun ds S q qx ⟨H, s, n, key, ky, v, s', hd, R, W, h1, h2, hk, hv, ht, hq⟩ => ?_⟩
  subst hd
  have hp := hrep_pd R h1 h2
  walk_at "dl"
  refine needOf (methOf (x := .non) (hrep_hall R) rfl) ?_
  walk_at "dl"
  refine fldOf (hrep_t R h1 h2) th_parts (isDOf hp ?_)
  walk_at "dl"
  refine dpopOf hp hk (v := vD H v) (by rw [gval_vD, hv]; rfl) ?_
  rw [gdrop_vD]
  have T1 : HTr CT CH en H s S H (s.dropP n ky) _ := HTr.parts R h1 h2 (gdrop (s.parts n) ky)
  walk_at "dl"
  refine ⟨H, s.dropP n ky, v, s', rfl, T1.rep, W.dropP h2, ?_, ht, fun H' S' T2 => hq H' S' (T1.trans T2)⟩
  have := oldP_ok W n ky
  unfold oldP at this
  rw [hv] at this
  exact this
def dThings (CT CH : Addr) (en : Ed) : SpD := fun ds S k _ => ∃ (H : HA) (s : Hs), ds = [.ref (H.a .hall)] ∧ HRep CT CH en H s S ∧ Wf s ∧ ∀ ys : List Int, ys.Perm (s.there.map fun n : Nat => (n : Int)) → ys.Pairwise (· ≤ ·) → k (.list (ys.map D.int)) S
theorem ok_things {fa : Addr} {fd : FuncData} (F : Fun K "things" "Hall.things" s_Hall_things fa fd) (T : Txt K mg CT CH) : FnOk P w K mg base CX0 1 fa fd ["self"] (lSp K (dThings CT CH en)) := by
  refine dok F sc_Hall_things (fun ds S q qx ⟨H, s, z, _⟩ => by rw [z]; rfl) ⟨_, fun cdv A outer s H E hr => dss_one (ds_ret (de_callB (SD.call_sortedDL rfl) si_sortDL (by rfl) T.sorted (by decide +kernel) (da_cons (de_fld T.Hall_ (by decide +kernel) (de_var 0)) da_nil))), fun ds S q qx ⟨H, s, hd, R, W, hq⟩ => ?_⟩
  subst hd
  walk_at "dl"
  refine fldOf (hrep_hall R) ha_there ?_
  walk_at "dl"
  exact ⟨_, s.there.map fun n : Nat => (n : Int), hrep_th R, by rw [List.map_map, List.map_map]; rfl, by rw [List.length_map]; have := W.len; have := W.most; omega, hq⟩
def dGone (CT CH : Addr) (en : Ed) : SpD := fun ds S k _ => ∃ (H : HA) (s : Hs), ds = [.ref (H.a .hall)] ∧ HRep CT CH en H s S ∧ k (.list (s.left.map fun n : Nat => .int (n : Int))) S
theorem ok_gone {fa : Addr} {fd : FuncData} (F : Fun K "gone" "Hall.gone" s_Hall_gone fa fd) (T : Txt K mg CT CH) : FnOk P w K mg base CX0 1 fa fd ["self"] (lSp K (dGone CT CH en)) := by
  refine dok F sc_Hall_gone (fun ds S q qx ⟨H, s, z, _⟩ => by rw [z]; rfl) ⟨_, fun cdv A outer s H E hr => dss_one (ds_ret (de_callTy (clList (K := K)) si_list (by rfl) T.list (by decide +kernel) (da_cons (de_fld T.Hall_ (by decide +kernel) (de_var 0)) da_nil))), fun ds S q qx ⟨H, s, hd, R, hq⟩ => ?_⟩
  subst hd
  walk_at "dl"
  refine fldOf (hrep_hall R) ha_left ?_
  walk_at "dl"
  exact ⟨_, hrep_lf R, hq⟩
end
end K

set_option Elab.async false
set_option linter.all false
set_option maxRecDepth 100000
namespace K
open PySem L2 Evl EX DL HM

section
variable {P : Program} {w : World} {K : PySem.W.Frag} {mg : Str → Option Value} {base : Heap} {CT CH : Addr}
local macro_rules | `(tactic| walk_at "dl") => `(tactic| try simp only [↓x_neg, ↓x_lcS, ↓x_lockE, ↓x_eqA, ↓x_dictD, ↓x_disp, ↓x_pNil, ↓x_pCons, ↓x_forS, ↓x_diSL, ↓x_diKeys, ↓x_lock, ↓x_dictP, ↓x_fld, ↓x_fldS, ↓x_fldA, ↓x_meth, ↓x_make, ↓x_dget, ↓x_din, ↓x_dget1, ↓x_dget2, ↓x_dpop, ↓x_dput, ↓x_listD, ↓x_sortDI, ↓x_lenD, ↓x_isiC, x_icS, x_icI, x_icB, x_icN, x_ioS, x_ioI, x_ioB, x_ioN, ↓x_gSub, ↓x_sortDL, ↓x_eqO, ↓x_ninA, x_catN, x_isBB, x_isBN, x_isBI, x_isBS, x_isBR, ↓x_seq, ↓x_nx, ↓x_pass, ↓x_brk, ↓x_cnt, ↓x_drop, ↓x_ret, ↓x_retN, ↓x_ifS, ↓x_set, ↓x_asg, ↓x_gN, ↓x_gT, ↓x_gsC, ↓x_gsN, ↓x_var, x_rdv, ↓x_c, ↓x_op, ↓x_test, x_tst, ↓x_and, ↓x_or, ↓x_not, ↓x_andV, ↓x_orV, ↓x_notV, x_tstV, ↓x_ifE, x_true, x_false, ↓x_nil, ↓x_cons, ↓x_tup, ↓x_lst, ↓x_new, ↓x_newD, ↓x_call, ↓x_cb, x_oI, x_oIc, x_oS, x_addS, x_isN, x_notN, x_eqI, x_eqS, x_eqIS, x_eqSI, x_eqNS, x_neI, x_neS, x_neB, x_eqB, x_few, x_need, ↓x_ix, x_lenS, x_ixL0, x_ixT0, x_ixT1, x_ixT2, x_ixT3, x_ixT4, x_lenL, x_lenT, x_lenC, x_listL, x_listT, x_tupL, x_tupT, x_strI, x_strS, x_int1, x_intB, x_I1, x_I2, x_cat, x_catT, ↓x_split, ↓x_for, ↓x_cut, ↓x_lc, ↓x_whl, ↓x_diL, ↓x_diT, ↓x_diS, x_itL, x_itC, x_itT, x_itS, ↓x_diR1, ↓x_diR2, ↓x_diE, x_enmL, x_enmC, ↓x_gcN, ↓x_gcT, ↓x_yes, ↓x_ml, ↓x_ms, x_strq, x_ss, x_ssc, x_ssi, ↓x_join, ↓x_aug, x_st2I, ↓x_sl, ↓x_noP, ↓x_part, x_intq, x_slL, x_slC, x_slS, ↓x_in, x_inT, x_inL, x_ninT, x_ninL, x_inN, x_inSS, x_inSI, x_inIS, x_inII, ↓x_sg, x_sgS, x_nsgS, ↓x_eqD, ↓x_inDD, x_mulS, ↓x_isi, x_isiS, x_isiI, x_isiB, x_isiN, x_isiL, x_isiT, ↓x_isTT, x_itI, x_itStr, x_itN, x_itB, x_itLst, x_itTup, ↓x_any, ↓x_all, ↓x_sum, ↓x_srtI, ↓x_srtS, ↓x_intS, ↓x_lenRf, ↓x_tupRf, ↓x_frz', x_flS, x_flI, x_flN, x_flB, x_cs_bool, x_isB_NoneType_bool, x_isB_bool_bool, x_isB_int_bool, x_isB_str_bool, x_isB_list_bool, x_isB_tuple_bool, x_isB_dict_bool, x_cs_int, x_isB_NoneType_int, x_isB_bool_int, x_isB_int_int, x_isB_str_int, x_isB_list_int, x_isB_tuple_int, x_isB_dict_int, x_cs_str, x_isB_NoneType_str, x_isB_bool_str, x_isB_int_str, x_isB_str_str, x_isB_list_str, x_isB_tuple_str, x_isB_dict_str, x_cs_list, x_isB_NoneType_list, x_isB_bool_list, x_isB_int_list, x_isB_str_list, x_isB_list_list, x_isB_tuple_list, x_isB_dict_list, x_cs_tuple, x_isB_NoneType_tuple, x_isB_bool_tuple, x_isB_int_tuple, x_isB_str_tuple, x_isB_list_tuple, x_isB_tuple_tuple, x_isB_dict_tuple, x_cs_dict, x_isB_NoneType_dict, x_isB_bool_dict, x_isB_int_dict, x_isB_str_dict, x_isB_list_dict, x_isB_tuple_dict, x_isB_dict_dict, List.all_cons, List.all_nil, Bool.and_self, Bool.or_false, Bool.or_true, Bool.false_or, Bool.true_or, wipeD, setD, DL.isNon, List.set_cons_zero, List.set_cons_succ, List.getElem?_cons_zero, List.getElem?_cons_succ, List.length_cons, List.length_nil, Nat.zero_add, List.cons_append, List.nil_append, decide_true, decide_false, Bool.not_true, Bool.not_false, true_and, and_true, startD, List.map_cons, List.map_nil, Nat.reduceSub, Nat.reduceLeDiff, Nat.zero_le, Int.reduceLT, Int.reduceLE, and_self, Nat.reduceAdd, List.replicate])
/-! == with a thing's name -/
theorem nD_ints (l : List Nat) : nD l = (l.map fun n : Nat => (n : Int)).map D.int := by unfold nD; rw [List.map_map]; rfl
end
end K

set_option Elab.async false
set_option linter.all false
set_option maxRecDepth 100000
namespace K
open PySem L2 Evl EX DL HM
section
variable {P : Program} {w : World} {K : PySem.W.Frag} {mg : Str → Option Value} {base : Heap} {CT CH : Addr}
local macro_rules | `(tactic| walk_at "dl") => `(tactic| try simp only [↓x_neg, ↓x_lcS, ↓x_lockE, ↓x_eqA, ↓x_dictD, ↓x_disp, ↓x_pNil, ↓x_pCons, ↓x_forS, ↓x_diSL, ↓x_diKeys, ↓x_lock, ↓x_dictP, ↓x_fld, ↓x_fldS, ↓x_fldA, ↓x_meth, ↓x_make, ↓x_dget, ↓x_din, ↓x_dget1, ↓x_dget2, ↓x_dpop, ↓x_dput, ↓x_listD, ↓x_sortDI, ↓x_lenD, ↓x_isiC, x_icS, x_icI, x_icB, x_icN, x_ioS, x_ioI, x_ioB, x_ioN, ↓x_gSub, ↓x_sortDL, ↓x_eqO, ↓x_ninA, x_catN, x_isBB, x_isBN, x_isBI, x_isBS, x_isBR, ↓x_seq, ↓x_nx, ↓x_pass, ↓x_brk, ↓x_cnt, ↓x_drop, ↓x_ret, ↓x_retN, ↓x_ifS, ↓x_set, ↓x_asg, ↓x_gN, ↓x_gT, ↓x_gsC, ↓x_gsN, ↓x_var, x_rdv, ↓x_c, ↓x_op, ↓x_test, x_tst, ↓x_and, ↓x_or, ↓x_not, ↓x_andV, ↓x_orV, ↓x_notV, x_tstV, ↓x_ifE, x_true, x_false, ↓x_nil, ↓x_cons, ↓x_tup, ↓x_lst, ↓x_new, ↓x_newD, ↓x_call, ↓x_cb, x_oI, x_oIc, x_oS, x_addS, x_isN, x_notN, x_eqI, x_eqS, x_eqIS, x_eqSI, x_eqNS, x_neI, x_neS, x_neB, x_eqB, x_few, x_need, ↓x_ix, x_lenS, x_ixL0, x_ixT0, x_ixT1, x_ixT2, x_ixT3, x_ixT4, x_lenL, x_lenT, x_lenC, x_listL, x_listT, x_tupL, x_tupT, x_strI, x_strS, x_int1, x_intB, x_I1, x_I2, x_cat, x_catT, ↓x_split, ↓x_for, ↓x_cut, ↓x_lc, ↓x_whl, ↓x_diL, ↓x_diT, ↓x_diS, x_itL, x_itC, x_itT, x_itS, ↓x_diR1, ↓x_diR2, ↓x_diE, x_enmL, x_enmC, ↓x_gcN, ↓x_gcT, ↓x_yes, ↓x_ml, ↓x_ms, x_strq, x_ss, x_ssc, x_ssi, ↓x_join, ↓x_aug, x_st2I, ↓x_sl, ↓x_noP, ↓x_part, x_intq, x_slL, x_slC, x_slS, ↓x_in, x_inT, x_inL, x_ninT, x_ninL, x_inN, x_inSS, x_inSI, x_inIS, x_inII, ↓x_sg, x_sgS, x_nsgS, ↓x_eqD, ↓x_inDD, x_mulS, ↓x_isi, x_isiS, x_isiI, x_isiB, x_isiN, x_isiL, x_isiT, ↓x_isTT, x_itI, x_itStr, x_itN, x_itB, x_itLst, x_itTup, ↓x_any, ↓x_all, ↓x_sum, ↓x_srtI, ↓x_srtS, ↓x_intS, ↓x_lenRf, ↓x_tupRf, ↓x_frz', x_flS, x_flI, x_flN, x_flB, x_cs_bool, x_isB_NoneType_bool, x_isB_bool_bool, x_isB_int_bool, x_isB_str_bool, x_isB_list_bool, x_isB_tuple_bool, x_isB_dict_bool, x_cs_int, x_isB_NoneType_int, x_isB_bool_int, x_isB_int_int, x_isB_str_int, x_isB_list_int, x_isB_tuple_int, x_isB_dict_int, x_cs_str, x_isB_NoneType_str, x_isB_bool_str, x_isB_int_str, x_isB_str_str, x_isB_list_str, x_isB_tuple_str, x_isB_dict_str, x_cs_list, x_isB_NoneType_list, x_isB_bool_list, x_isB_int_list, x_isB_str_list, x_isB_list_list, x_isB_tuple_list, x_isB_dict_list, x_cs_tuple, x_isB_NoneType_tuple, x_isB_bool_tuple, x_isB_int_tuple, x_isB_str_tuple, x_isB_list_tuple, x_isB_tuple_tuple, x_isB_dict_tuple, x_cs_dict, x_isB_NoneType_dict, x_isB_bool_dict, x_isB_int_dict, x_isB_str_dict, x_isB_list_dict, x_isB_tuple_dict, x_isB_dict_dict, List.all_cons, List.all_nil, Bool.and_self, Bool.or_false, Bool.or_true, Bool.false_or, Bool.true_or, wipeD, setD, DL.isNon, List.set_cons_zero, List.set_cons_succ, List.getElem?_cons_zero, List.getElem?_cons_succ, List.length_cons, List.length_nil, Nat.zero_add, List.cons_append, List.nil_append, decide_true, decide_false, Bool.not_true, Bool.not_false, true_and, and_true, startD, List.map_cons, List.map_nil, Nat.reduceSub, Nat.reduceLeDiff, Nat.zero_le, Int.reduceLT, Int.reduceLE, and_self, Nat.reduceAdd, List.replicate])
theorem nD_snoc (l : List Nat) (n : Nat) : nD l ++ [.int (n : Int)] = nD (l ++ [n]) := by unfold nD; rw [List.map_append]; rfl
theorem nD_len (l : List Nat) : (nD l).length = l.length := by unfold nD; rw [List.length_map]
end
end K

set_option Elab.async false
set_option linter.all false
set_option maxRecDepth 100000
namespace HM
open PySem L2 DL
/-- lasts keep what is counted -/
structure AskGood (ask : AskR) : Prop where
  ok : AskOk ask
  good : ∀ {s n s'}, ask s n s' → Wf s → Good s → n ∈ s.there → Good s'
  out : ∀ {s n s'}, ask s n s' → n ∈ s.outer → n ∈ s'.outer
section
variable {ask : AskR} (K : AskGood ask) {s s' : Hs} {n : Nat}
include K
theorem Turn.good (t : Turn ask s n s') (w : Wf s) (g : Good s) (h : ∀ l, s.row = some l → n ∉ l) : Good s' := by
  cases t with
  | pass _ => exact g.unwait
  | stay h1 h2 h3 =>
    rename_i s1
    have hn : n ∈ s.there := Classical.not_not.mp fun z => h1 (.inr z)
    have hb := w.tin n hn
    have g1 : Good ((s.unwait n).up n) := (Good.unwait g).up hb.2
    exact (K.good h2 ((w.unwait h).up n) g1 hn).down (K.out h2 (List.mem_append_right _ (List.mem_singleton.mpr rfl)))
  | go h1 h2 h3 =>
    rename_i s1
    have hn : n ∈ s.there := Classical.not_not.mp fun z => h1 (.inr z)
    have hb := w.tin n hn
    have g1 : Good ((s.unwait n).up n) := (Good.unwait g).up hb.2
    have g2 := (K.good h2 ((w.unwait h).up n) g1 hn).down (K.out h2 (List.mem_append_right _ (List.mem_singleton.mpr rfl)))
    have w2 := (K.ok.wf h2 ((w.unwait h).up n) hn).down n
    have hs := K.ok.stay h2 hn
    obtain ⟨a, b, c, d⟩ := (g2.gone w2 hs).emptied (n := n) (w2.gone hs) (List.mem_append_right _ (List.mem_singleton.mpr rfl)) rfl
    exact a.bare b
theorem Work.good {f : Nat} (t : Work ask f s s') (w : Wf s) (g : Good s) : Good s' := by
  induction t with
  | done h => exact ⟨g.cnt, g.rnd, g.rt, g.rin, g.oin⟩
  | step h1 h2 h3 ih =>
    obtain ⟨w1, w2, _⟩ := w.rowTail h1
    exact ih (h2.wf K.ok w1 fun l hl => by cases hl; exact w2).1 (h2.good K w1 ⟨g.cnt, g.rnd, g.rt, g.rin, g.oin⟩ fun l hl => by cases hl; exact w2)
theorem Loose.good {v : Vl} (t : Loose ask s v s') (w : Wf s) (g : GoodP s v) : Good s' := by
  have gl := g.loosed
  cases t with
  | no => exact ⟨g.cnt, g.rnd, g.rt, g.rin, g.oin⟩
  | kept h => rw [loosed_th, h, if_neg (by exact nofun)] at gl; exact gl
  | wait h _ => rw [loosed_th, if_pos h] at gl; exact gl
  | work h h1 h2 =>
    rename_i n f
    rw [loosed_th, if_pos h] at gl
    have w1 := (w.dec n).enq h
    exact h2.good K ⟨w1.nd, w1.tin, w1.len, w1.most, w1.key, w1.plen, w1.pv, w1.wnd, w1.win, fun l hl => by
      cases hl
      exact ⟨by simp, fun i hi => by rw [List.mem_singleton.mp hi]; exact List.mem_append_right _ (List.mem_singleton.mpr rfl)⟩, w1.pz, w1.az, w1.kok, w1.eb, w1.an, w1.bs⟩ ⟨gl.cnt, gl.rnd, gl.rt, gl.rin, gl.oin⟩
end
end HM
namespace K
open PySem L2 Evl EX DL HM
section
variable {P : Program} {w : World} {K : PySem.W.Frag} {mg : Str → Option Value} {base : Heap} {CT CH : Addr}
local macro_rules | `(tactic| walk_at "dl") => `(tactic| try simp only [↓x_neg, ↓x_lcS, ↓x_lockE, ↓x_eqA, ↓x_dictD, ↓x_disp, ↓x_pNil, ↓x_pCons, ↓x_forS, ↓x_diSL, ↓x_diKeys, ↓x_lock, ↓x_dictP, ↓x_fld, ↓x_fldS, ↓x_fldA, ↓x_meth, ↓x_make, ↓x_dget, ↓x_din, ↓x_dget1, ↓x_dget2, ↓x_dpop, ↓x_dput, ↓x_listD, ↓x_sortDI, ↓x_lenD, ↓x_isiC, x_icS, x_icI, x_icB, x_icN, x_ioS, x_ioI, x_ioB, x_ioN, ↓x_gSub, ↓x_sortDL, ↓x_eqO, ↓x_ninA, x_catN, x_isBB, x_isBN, x_isBI, x_isBS, x_isBR, ↓x_seq, ↓x_nx, ↓x_pass, ↓x_brk, ↓x_cnt, ↓x_drop, ↓x_ret, ↓x_retN, ↓x_ifS, ↓x_set, ↓x_asg, ↓x_gN, ↓x_gT, ↓x_gsC, ↓x_gsN, ↓x_var, x_rdv, ↓x_c, ↓x_op, ↓x_test, x_tst, ↓x_and, ↓x_or, ↓x_not, ↓x_andV, ↓x_orV, ↓x_notV, x_tstV, ↓x_ifE, x_true, x_false, ↓x_nil, ↓x_cons, ↓x_tup, ↓x_lst, ↓x_new, ↓x_newD, ↓x_call, ↓x_cb, x_oI, x_oIc, x_oS, x_addS, x_isN, x_notN, x_eqI, x_eqS, x_eqIS, x_eqSI, x_eqNS, x_neI, x_neS, x_neB, x_eqB, x_few, x_need, ↓x_ix, x_lenS, x_ixL0, x_ixT0, x_ixT1, x_ixT2, x_ixT3, x_ixT4, x_lenL, x_lenT, x_lenC, x_listL, x_listT, x_tupL, x_tupT, x_strI, x_strS, x_int1, x_intB, x_I1, x_I2, x_cat, x_catT, ↓x_split, ↓x_for, ↓x_cut, ↓x_lc, ↓x_whl, ↓x_diL, ↓x_diT, ↓x_diS, x_itL, x_itC, x_itT, x_itS, ↓x_diR1, ↓x_diR2, ↓x_diE, x_enmL, x_enmC, ↓x_gcN, ↓x_gcT, ↓x_yes, ↓x_ml, ↓x_ms, x_strq, x_ss, x_ssc, x_ssi, ↓x_join, ↓x_aug, x_st2I, ↓x_sl, ↓x_noP, ↓x_part, x_intq, x_slL, x_slC, x_slS, ↓x_in, x_inT, x_inL, x_ninT, x_ninL, x_inN, x_inSS, x_inSI, x_inIS, x_inII, ↓x_sg, x_sgS, x_nsgS, ↓x_eqD, ↓x_inDD, x_mulS, ↓x_isi, x_isiS, x_isiI, x_isiB, x_isiN, x_isiL, x_isiT, ↓x_isTT, x_itI, x_itStr, x_itN, x_itB, x_itLst, x_itTup, ↓x_any, ↓x_all, ↓x_sum, ↓x_srtI, ↓x_srtS, ↓x_intS, ↓x_lenRf, ↓x_tupRf, ↓x_frz', x_flS, x_flI, x_flN, x_flB, x_cs_bool, x_isB_NoneType_bool, x_isB_bool_bool, x_isB_int_bool, x_isB_str_bool, x_isB_list_bool, x_isB_tuple_bool, x_isB_dict_bool, x_cs_int, x_isB_NoneType_int, x_isB_bool_int, x_isB_int_int, x_isB_str_int, x_isB_list_int, x_isB_tuple_int, x_isB_dict_int, x_cs_str, x_isB_NoneType_str, x_isB_bool_str, x_isB_int_str, x_isB_str_str, x_isB_list_str, x_isB_tuple_str, x_isB_dict_str, x_cs_list, x_isB_NoneType_list, x_isB_bool_list, x_isB_int_list, x_isB_str_list, x_isB_list_list, x_isB_tuple_list, x_isB_dict_list, x_cs_tuple, x_isB_NoneType_tuple, x_isB_bool_tuple, x_isB_int_tuple, x_isB_str_tuple, x_isB_list_tuple, x_isB_tuple_tuple, x_isB_dict_tuple, x_cs_dict, x_isB_NoneType_dict, x_isB_bool_dict, x_isB_int_dict, x_isB_str_dict, x_isB_list_dict, x_isB_tuple_dict, x_isB_dict_dict, List.all_cons, List.all_nil, Bool.and_self, Bool.or_false, Bool.or_true, Bool.false_or, Bool.true_or, wipeD, setD, DL.isNon, List.set_cons_zero, List.set_cons_succ, List.getElem?_cons_zero, List.getElem?_cons_succ, List.length_cons, List.length_nil, Nat.zero_add, List.cons_append, List.nil_append, decide_true, decide_false, Bool.not_true, Bool.not_false, true_and, and_true, startD, List.map_cons, List.map_nil, Nat.reduceSub, Nat.reduceLeDiff, Nat.zero_le, Int.reduceLT, Int.reduceLE, and_self, Nat.reduceAdd, List.replicate])
theorem nat_any (l : List Nat) : (D.list (nD l)).any = true := by
  rw [D.any]
  induction l with
  | nil => rfl
  | cons a l ih => rw [show nD (a :: l) = .int (a : Int) :: nD l from rfl, anyL, ih]; rfl
end
end K

set_option Elab.async false
set_option linter.all false
set_option maxRecDepth 100000
namespace K
open PySem L2 Evl EX DL HM

section
variable {P : Program} {w : World} {K : PySem.W.Frag} {mg : Str → Option Value} {base : Heap} {CT CH : Addr}
local macro_rules | `(tactic| walk_at "dl") => `(tactic| try simp only [↓x_neg, ↓x_lcS, ↓x_lockE, ↓x_eqA, ↓x_dictD, ↓x_disp, ↓x_pNil, ↓x_pCons, ↓x_forS, ↓x_diSL, ↓x_diKeys, ↓x_lock, ↓x_dictP, ↓x_fld, ↓x_fldS, ↓x_fldA, ↓x_meth, ↓x_make, ↓x_dget, ↓x_din, ↓x_dget1, ↓x_dget2, ↓x_dpop, ↓x_dput, ↓x_listD, ↓x_sortDI, ↓x_lenD, ↓x_isiC, x_icS, x_icI, x_icB, x_icN, x_ioS, x_ioI, x_ioB, x_ioN, ↓x_gSub, ↓x_sortDL, ↓x_eqO, ↓x_ninA, x_catN, x_isBB, x_isBN, x_isBI, x_isBS, x_isBR, ↓x_seq, ↓x_nx, ↓x_pass, ↓x_brk, ↓x_cnt, ↓x_drop, ↓x_ret, ↓x_retN, ↓x_ifS, ↓x_set, ↓x_asg, ↓x_gN, ↓x_gT, ↓x_gsC, ↓x_gsN, ↓x_var, x_rdv, ↓x_c, ↓x_op, ↓x_test, x_tst, ↓x_and, ↓x_or, ↓x_not, ↓x_andV, ↓x_orV, ↓x_notV, x_tstV, ↓x_ifE, x_true, x_false, ↓x_nil, ↓x_cons, ↓x_tup, ↓x_lst, ↓x_new, ↓x_newD, ↓x_call, ↓x_cb, x_oI, x_oIc, x_oS, x_addS, x_isN, x_notN, x_eqI, x_eqS, x_eqIS, x_eqSI, x_eqNS, x_neI, x_neS, x_neB, x_eqB, x_few, x_need, ↓x_ix, x_lenS, x_ixL0, x_ixT0, x_ixT1, x_ixT2, x_ixT3, x_ixT4, x_lenL, x_lenT, x_lenC, x_listL, x_listT, x_tupL, x_tupT, x_strI, x_strS, x_int1, x_intB, x_I1, x_I2, x_cat, x_catT, ↓x_split, ↓x_for, ↓x_cut, ↓x_lc, ↓x_whl, ↓x_diL, ↓x_diT, ↓x_diS, x_itL, x_itC, x_itT, x_itS, ↓x_diR1, ↓x_diR2, ↓x_diE, x_enmL, x_enmC, ↓x_gcN, ↓x_gcT, ↓x_yes, ↓x_ml, ↓x_ms, x_strq, x_ss, x_ssc, x_ssi, ↓x_join, ↓x_aug, x_st2I, ↓x_sl, ↓x_noP, ↓x_part, x_intq, x_slL, x_slC, x_slS, ↓x_in, x_inT, x_inL, x_ninT, x_ninL, x_inN, x_inSS, x_inSI, x_inIS, x_inII, ↓x_sg, x_sgS, x_nsgS, ↓x_eqD, ↓x_inDD, x_mulS, ↓x_isi, x_isiS, x_isiI, x_isiB, x_isiN, x_isiL, x_isiT, ↓x_isTT, x_itI, x_itStr, x_itN, x_itB, x_itLst, x_itTup, ↓x_any, ↓x_all, ↓x_sum, ↓x_srtI, ↓x_srtS, ↓x_intS, ↓x_lenRf, ↓x_tupRf, ↓x_frz', x_flS, x_flI, x_flN, x_flB, x_cs_bool, x_isB_NoneType_bool, x_isB_bool_bool, x_isB_int_bool, x_isB_str_bool, x_isB_list_bool, x_isB_tuple_bool, x_isB_dict_bool, x_cs_int, x_isB_NoneType_int, x_isB_bool_int, x_isB_int_int, x_isB_str_int, x_isB_list_int, x_isB_tuple_int, x_isB_dict_int, x_cs_str, x_isB_NoneType_str, x_isB_bool_str, x_isB_int_str, x_isB_str_str, x_isB_list_str, x_isB_tuple_str, x_isB_dict_str, x_cs_list, x_isB_NoneType_list, x_isB_bool_list, x_isB_int_list, x_isB_str_list, x_isB_list_list, x_isB_tuple_list, x_isB_dict_list, x_cs_tuple, x_isB_NoneType_tuple, x_isB_bool_tuple, x_isB_int_tuple, x_isB_str_tuple, x_isB_list_tuple, x_isB_tuple_tuple, x_isB_dict_tuple, x_cs_dict, x_isB_NoneType_dict, x_isB_bool_dict, x_isB_int_dict, x_isB_str_dict, x_isB_list_dict, x_isB_tuple_dict, x_isB_dict_dict, List.all_cons, List.all_nil, Bool.and_self, Bool.or_false, Bool.or_true, Bool.false_or, Bool.true_or, wipeD, setD, DL.isNon, List.set_cons_zero, List.set_cons_succ, List.getElem?_cons_zero, List.getElem?_cons_succ, List.length_cons, List.length_nil, Nat.zero_add, List.cons_append, List.nil_append, decide_true, decide_false, Bool.not_true, Bool.not_false, true_and, and_true, startD, List.map_cons, List.map_nil, Nat.reduceSub, Nat.reduceLeDiff, Nat.zero_le, Int.reduceLT, Int.reduceLE, and_self, Nat.reduceAdd, List.replicate])
inductive Dp where
  | put (n : Nat) (k : Key) (v : Vl) | take (n : Nat) (k : Key) | make (n : Nat) (k : Key)
def tD (n : Nat) : D := .tup [.str "t", .int (n : Int)]
def Dp.d : Dp → D
  | .put n k v => .tup [.str "put", tD n, dK k, vM v]
  | .take n k => .tup [.str "take", tD n, dK k]
  | .make n k => .tup [.str "make", tD n, dK k]
def Dp.n : Dp → Nat
  | .put n _ _ => n
  | .take n _ => n
  | .make n _ => n
def Dp.k : Dp → Key
  | .put _ k _ => k
  | .take _ k => k
  | .make _ k => k
def Dp.v (s : Hs) : Dp → Vl
  | .put _ _ v => v
  | .take _ _ => .no .non
  | .make _ _ => .th (s.many + 1)
def Dp.Ok (s : Hs) : Dp → Prop
  | .put n k v => n ∈ s.there ∧ (dK k).any = true ∧ VOk s.many v ∧ (s.parts n).length < 90000
  | .take n k => n ∈ s.there
  | .make n k => n ∈ s.there ∧ (dK k).any = true ∧ s.many < 5000 ∧ (s.parts n).length < 90000
def Hs.madeIn (s : Hs) : Hs := s.made (.str "made") .non
inductive Dp.R (ask : AskR) (s : Hs) : Dp → Hs → Prop where
  | put {n : Nat} {k : Key} {v : Vl} {s' : Hs} : Loose ask (s.putP n k v) (oldP s n k) s' → Dp.R ask s (.put n k v) s'
  | take {n : Nat} {k : Key} {v : Vl} {s' : Hs} : gval (s.parts n) k = some v → Loose ask (s.dropP n k) v s' → Dp.R ask s (.take n k) s'
  | none {n : Nat} {k : Key} : gval (s.parts n) k = none → Dp.R ask s (.take n k) s
  | make {n : Nat} {k : Key} {s' : Hs} : Loose ask ((Hs.madeIn s).putP n k (.th (s.many + 1))) (oldP s n k) s' → Dp.R ask s (.make n k) s'
section
variable {S : Sto} {k : DK} {a : Int}
end
end
end K

set_option Elab.async false
set_option linter.all false
set_option maxRecDepth 100000
namespace HM
open PySem L2 DL
/-- a deed of the asker's -/
inductive Dl where
  | new (f : Str) | hold (n : Nat) | loose (n : Nat) | part (d : K.Dp)
def Dl.d : Dl → D
  | .new f => .tup [.str "new", .str f]
  | .hold n => .tup [.str "hold", K.tD n]
  | .loose n => .tup [.str "loose", K.tD n]
  | .part d => d.d
def Hs.holdM (s : Hs) (n : Nat) : Hs := { s.up n with mine := s.mine ++ [n] }
def Hs.unheld (s : Hs) (n : Nat) : Hs := { s with outer := s.outer.erase n, mine := s.mine.erase n }
inductive Dl.R (ask : AskR) (s : Hs) : Dl → Hs → Prop where
  | new {f : Str} : Dl.R ask s (.new f) (s.made (.str f) .non)
  | hold {n : Nat} : Dl.R ask s (.hold n) (s.holdM n)
  | loose {n : Nat} {s' : Hs} : Loose ask (s.unheld n) (.th n) s' → Dl.R ask s (.loose n) s'
  | part {d : K.Dp} {s' : Hs} : K.Dp.R ask s d s' → Dl.R ask s (.part d) s'
def Dl.Ok (s : Hs) : Dl → Prop
  | .new f => s.many < 5000
  | .hold n => n ∈ s.there
  | .loose n => n ∈ s.there ∧ n ∈ s.mine ∧ n ∈ s.outer
  | .part (.take n k) => n ∈ s.there ∧ (gval (s.parts n) k).isSome = true
  | .part (.make _ _) => False
  | .part d => d.Ok s
section
variable {s : Hs} {n : Nat}
theorem Wf.holdM (w : Wf s) (n : Nat) : Wf (s.holdM n) := ⟨w.nd, w.tin, w.len, w.most, w.key, w.plen, w.pv, w.wnd, w.win, w.rnd, w.pz, w.az, w.kok, w.eb, w.an, w.bs⟩
theorem Wf.unheld (w : Wf s) (n : Nat) : Wf (s.unheld n) := ⟨w.nd, w.tin, w.len, w.most, w.key, w.plen, w.pv, w.wnd, w.win, w.rnd, w.pz, w.az, w.kok, w.eb, w.an, w.bs⟩
theorem Good.holdM (g : Good s) (hn : n ≤ s.many) : Good (s.holdM n) := by
  have h := g.up hn
  exact ⟨h.cnt, h.rnd, h.rt, h.rin, h.oin⟩
theorem Good.unheld (g : Good s) (hn : n ∈ s.outer) : GoodP (s.unheld n) (.th n) := by
  refine ⟨fun j => ?_, g.rnd, g.rt, g.rin, fun i hi => g.oin i (List.mem_of_mem_erase hi)⟩
  show s.cnt j = (((s.outer.erase n).count j + psum s.parts s.there j + psum s.parts s.rest j + one (.th n) j : Nat) : Int)
  have e := g.eq j
  unfold cntF at e
  rw [one_th]
  by_cases z : n = j
  · subst z
    have := List.count_pos_iff.mpr hn
    rw [e, List.count_erase_self, if_pos rfl]
    omega
  · rw [e, List.count_erase_of_ne (Ne.symm z), if_neg z]
    omega
end
end HM
namespace K
open PySem L2 Evl EX DL HM
section
variable {P : Program} {w : World} {K : PySem.W.Frag} {mg : Str → Option Value} {base : Heap} {CT CH : Addr}
local macro_rules | `(tactic| walk_at "dl") => `(tactic| try simp only [↓x_neg, ↓x_lcS, ↓x_lockE, ↓x_eqA, ↓x_dictD, ↓x_disp, ↓x_pNil, ↓x_pCons, ↓x_forS, ↓x_diSL, ↓x_diKeys, ↓x_lock, ↓x_dictP, ↓x_fld, ↓x_fldS, ↓x_fldA, ↓x_meth, ↓x_make, ↓x_dget, ↓x_din, ↓x_dget1, ↓x_dget2, ↓x_dpop, ↓x_dput, ↓x_listD, ↓x_sortDI, ↓x_lenD, ↓x_isiC, x_icS, x_icI, x_icB, x_icN, x_ioS, x_ioI, x_ioB, x_ioN, ↓x_gSub, ↓x_sortDL, ↓x_eqO, ↓x_ninA, x_catN, x_isBB, x_isBN, x_isBI, x_isBS, x_isBR, ↓x_seq, ↓x_nx, ↓x_pass, ↓x_brk, ↓x_cnt, ↓x_drop, ↓x_ret, ↓x_retN, ↓x_ifS, ↓x_set, ↓x_asg, ↓x_gN, ↓x_gT, ↓x_gsC, ↓x_gsN, ↓x_var, x_rdv, ↓x_c, ↓x_op, ↓x_test, x_tst, ↓x_and, ↓x_or, ↓x_not, ↓x_andV, ↓x_orV, ↓x_notV, x_tstV, ↓x_ifE, x_true, x_false, ↓x_nil, ↓x_cons, ↓x_tup, ↓x_lst, ↓x_new, ↓x_newD, ↓x_call, ↓x_cb, x_oI, x_oIc, x_oS, x_addS, x_isN, x_notN, x_eqI, x_eqS, x_eqIS, x_eqSI, x_eqNS, x_neI, x_neS, x_neB, x_eqB, x_few, x_need, ↓x_ix, x_lenS, x_ixL0, x_ixT0, x_ixT1, x_ixT2, x_ixT3, x_ixT4, x_lenL, x_lenT, x_lenC, x_listL, x_listT, x_tupL, x_tupT, x_strI, x_strS, x_int1, x_intB, x_I1, x_I2, x_cat, x_catT, ↓x_split, ↓x_for, ↓x_cut, ↓x_lc, ↓x_whl, ↓x_diL, ↓x_diT, ↓x_diS, x_itL, x_itC, x_itT, x_itS, ↓x_diR1, ↓x_diR2, ↓x_diE, x_enmL, x_enmC, ↓x_gcN, ↓x_gcT, ↓x_yes, ↓x_ml, ↓x_ms, x_strq, x_ss, x_ssc, x_ssi, ↓x_join, ↓x_aug, x_st2I, ↓x_sl, ↓x_noP, ↓x_part, x_intq, x_slL, x_slC, x_slS, ↓x_in, x_inT, x_inL, x_ninT, x_ninL, x_inN, x_inSS, x_inSI, x_inIS, x_inII, ↓x_sg, x_sgS, x_nsgS, ↓x_eqD, ↓x_inDD, x_mulS, ↓x_isi, x_isiS, x_isiI, x_isiB, x_isiN, x_isiL, x_isiT, ↓x_isTT, x_itI, x_itStr, x_itN, x_itB, x_itLst, x_itTup, ↓x_any, ↓x_all, ↓x_sum, ↓x_srtI, ↓x_srtS, ↓x_intS, ↓x_lenRf, ↓x_tupRf, ↓x_frz', x_flS, x_flI, x_flN, x_flB, x_cs_bool, x_isB_NoneType_bool, x_isB_bool_bool, x_isB_int_bool, x_isB_str_bool, x_isB_list_bool, x_isB_tuple_bool, x_isB_dict_bool, x_cs_int, x_isB_NoneType_int, x_isB_bool_int, x_isB_int_int, x_isB_str_int, x_isB_list_int, x_isB_tuple_int, x_isB_dict_int, x_cs_str, x_isB_NoneType_str, x_isB_bool_str, x_isB_int_str, x_isB_str_str, x_isB_list_str, x_isB_tuple_str, x_isB_dict_str, x_cs_list, x_isB_NoneType_list, x_isB_bool_list, x_isB_int_list, x_isB_str_list, x_isB_list_list, x_isB_tuple_list, x_isB_dict_list, x_cs_tuple, x_isB_NoneType_tuple, x_isB_bool_tuple, x_isB_int_tuple, x_isB_str_tuple, x_isB_list_tuple, x_isB_tuple_tuple, x_isB_dict_tuple, x_cs_dict, x_isB_NoneType_dict, x_isB_bool_dict, x_isB_int_dict, x_isB_str_dict, x_isB_list_dict, x_isB_tuple_dict, x_isB_dict_dict, List.all_cons, List.all_nil, Bool.and_self, Bool.or_false, Bool.or_true, Bool.false_or, Bool.true_or, wipeD, setD, DL.isNon, List.set_cons_zero, List.set_cons_succ, List.getElem?_cons_zero, List.getElem?_cons_succ, List.length_cons, List.length_nil, Nat.zero_add, List.cons_append, List.nil_append, decide_true, decide_false, Bool.not_true, Bool.not_false, true_and, and_true, startD, List.map_cons, List.map_nil, Nat.reduceSub, Nat.reduceLeDiff, Nat.zero_le, Int.reduceLT, Int.reduceLE, and_self, Nat.reduceAdd, List.replicate])
end
end K

set_option Elab.async false
set_option linter.all false
set_option maxRecDepth 100000
namespace DL
open PySem L2
section
variable {L : Type} [DecidableEq L] {A A' : L → Addr} {C C' : L → Option O} {S S' : Sto} {l : L} {o u : O} {p : Addr}
theorem Tr.add (T : Tr (fun _ => False) A C S A' C' S') (hp : S' p = none) (h0 : C' l = none) : Tr (fun _ => False) A C S (fun y => if y = l then p else A' y) (fun y => if y = l then some o else C' y) (put S' p o) :=
  T.trans (T.rep.new hp h0 (if_pos rfl) (fun l' h => if_neg fun z : l' = l => h (by rw [z]; exact h0)) (if_pos rfl) fun l' h => if_neg h) fun _ h => h.elim
theorem Tr.upd (T : Tr (fun _ => False) A C S A' C' S') (h : C' l = some u) : Tr (fun _ => False) A C S A' (fun y => if y = l then some o else C' y) (put S' (A' l) o) :=
  T.trans (T.rep.set h (if_pos rfl) fun l' h => if_neg h) fun _ h => h.elim
end
end DL
namespace K
open PySem L2 Evl EX DL HM

section
variable {p1 p2 p3 p4 p5 p6 p7 p8 p9 p10 : Addr} {b : Bool}
end
def s0 : Hs := { many := 0, cnt := fun _ => 0, parts := fun _ => [], form := fun _ => .non, own := fun _ => .non, there := [], left := [], row := none, lasts := 0, waits := [], asked := [], rest := [], outer := [], mine := [], ends := [], told := [], base := 0 }
theorem s0_wf : Wf s0 := ⟨by simp [s0], fun _ h => (by cases h), by simp [s0], by decide, fun _ => by simp [s0], fun _ => by simp [s0], fun _ _ h => (by cases h), by simp [s0], fun _ h => (by cases h), fun _ h => (by cases h), fun _ _ => rfl, fun _ h => (by cases h), fun _ _ h => (by cases h), fun _ h => (by cases h), List.nodup_nil, Nat.le_refl _⟩
theorem s0_good : Good s0 := ⟨fun _ => rfl, by simp [s0], fun _ h => (by cases h), fun _ h => (by cases h), fun _ h => (by cases h)⟩
section
variable {P : Program} {w : World} {K : PySem.W.Frag} {mg : Str → Option Value} {base : Heap} {CT CH : Addr}
local macro_rules | `(tactic| walk_at "dl") => `(tactic| try simp only [↓x_neg, ↓x_lcS, ↓x_lockE, ↓x_eqA, ↓x_dictD, ↓x_disp, ↓x_pNil, ↓x_pCons, ↓x_forS, ↓x_diSL, ↓x_diKeys, ↓x_lock, ↓x_dictP, ↓x_fld, ↓x_fldS, ↓x_fldA, ↓x_meth, ↓x_make, ↓x_dget, ↓x_din, ↓x_dget1, ↓x_dget2, ↓x_dpop, ↓x_dput, ↓x_listD, ↓x_sortDI, ↓x_lenD, ↓x_isiC, x_icS, x_icI, x_icB, x_icN, x_ioS, x_ioI, x_ioB, x_ioN, ↓x_gSub, ↓x_sortDL, ↓x_eqO, ↓x_ninA, x_catN, x_isBB, x_isBN, x_isBI, x_isBS, x_isBR, ↓x_seq, ↓x_nx, ↓x_pass, ↓x_brk, ↓x_cnt, ↓x_drop, ↓x_ret, ↓x_retN, ↓x_ifS, ↓x_set, ↓x_asg, ↓x_gN, ↓x_gT, ↓x_gsC, ↓x_gsN, ↓x_var, x_rdv, ↓x_c, ↓x_op, ↓x_test, x_tst, ↓x_and, ↓x_or, ↓x_not, ↓x_andV, ↓x_orV, ↓x_notV, x_tstV, ↓x_ifE, x_true, x_false, ↓x_nil, ↓x_cons, ↓x_tup, ↓x_lst, ↓x_new, ↓x_newD, ↓x_call, ↓x_cb, x_oI, x_oIc, x_oS, x_addS, x_isN, x_notN, x_eqI, x_eqS, x_eqIS, x_eqSI, x_eqNS, x_neI, x_neS, x_neB, x_eqB, x_few, x_need, ↓x_ix, x_lenS, x_ixL0, x_ixT0, x_ixT1, x_ixT2, x_ixT3, x_ixT4, x_lenL, x_lenT, x_lenC, x_listL, x_listT, x_tupL, x_tupT, x_strI, x_strS, x_int1, x_intB, x_I1, x_I2, x_cat, x_catT, ↓x_split, ↓x_for, ↓x_cut, ↓x_lc, ↓x_whl, ↓x_diL, ↓x_diT, ↓x_diS, x_itL, x_itC, x_itT, x_itS, ↓x_diR1, ↓x_diR2, ↓x_diE, x_enmL, x_enmC, ↓x_gcN, ↓x_gcT, ↓x_yes, ↓x_ml, ↓x_ms, x_strq, x_ss, x_ssc, x_ssi, ↓x_join, ↓x_aug, x_st2I, ↓x_sl, ↓x_noP, ↓x_part, x_intq, x_slL, x_slC, x_slS, ↓x_in, x_inT, x_inL, x_ninT, x_ninL, x_inN, x_inSS, x_inSI, x_inIS, x_inII, ↓x_sg, x_sgS, x_nsgS, ↓x_eqD, ↓x_inDD, x_mulS, ↓x_isi, x_isiS, x_isiI, x_isiB, x_isiN, x_isiL, x_isiT, ↓x_isTT, x_itI, x_itStr, x_itN, x_itB, x_itLst, x_itTup, ↓x_any, ↓x_all, ↓x_sum, ↓x_srtI, ↓x_srtS, ↓x_intS, ↓x_lenRf, ↓x_tupRf, ↓x_frz', x_flS, x_flI, x_flN, x_flB, x_cs_bool, x_isB_NoneType_bool, x_isB_bool_bool, x_isB_int_bool, x_isB_str_bool, x_isB_list_bool, x_isB_tuple_bool, x_isB_dict_bool, x_cs_int, x_isB_NoneType_int, x_isB_bool_int, x_isB_int_int, x_isB_str_int, x_isB_list_int, x_isB_tuple_int, x_isB_dict_int, x_cs_str, x_isB_NoneType_str, x_isB_bool_str, x_isB_int_str, x_isB_str_str, x_isB_list_str, x_isB_tuple_str, x_isB_dict_str, x_cs_list, x_isB_NoneType_list, x_isB_bool_list, x_isB_int_list, x_isB_str_list, x_isB_list_list, x_isB_tuple_list, x_isB_dict_list, x_cs_tuple, x_isB_NoneType_tuple, x_isB_bool_tuple, x_isB_int_tuple, x_isB_str_tuple, x_isB_list_tuple, x_isB_tuple_tuple, x_isB_dict_tuple, x_cs_dict, x_isB_NoneType_dict, x_isB_bool_dict, x_isB_int_dict, x_isB_str_dict, x_isB_list_dict, x_isB_tuple_dict, x_isB_dict_dict, List.all_cons, List.all_nil, Bool.and_self, Bool.or_false, Bool.or_true, Bool.false_or, Bool.true_or, wipeD, setD, DL.isNon, List.set_cons_zero, List.set_cons_succ, List.getElem?_cons_zero, List.getElem?_cons_succ, List.length_cons, List.length_nil, Nat.zero_add, List.cons_append, List.nil_append, decide_true, decide_false, Bool.not_true, Bool.not_false, true_and, and_true, startD, List.map_cons, List.map_nil, Nat.reduceSub, Nat.reduceLeDiff, Nat.zero_le, Int.reduceLT, Int.reduceLE, and_self, Nat.reduceAdd, List.replicate])
end
end K

set_option Elab.async false
set_option linter.all false
set_option maxRecDepth 100000
namespace K
open PySem L2 Evl EX DL HM
def K6 : List Key := [.inr "a", .inr "b", .inr "name", .inl 0, .inl 1, .inl 7, .inr "next", .inr "ring", .inl 2]
theorem k6_any {k : Key} (h : k ∈ K6) : (dK k).any = true := by
  simp only [K6, List.mem_cons, List.not_mem_nil, or_false] at h
  rcases h with rfl | rfl | rfl | rfl | rfl | rfl | rfl | rfl | rfl <;> first | rfl | decide +kernel
section
variable {P : Program} {w : World} {K : PySem.W.Frag} {mg : Str → Option Value} {base : Heap} {CT CH : Addr}
local macro_rules | `(tactic| walk_at "dl") => `(tactic| try simp only [↓x_neg, ↓x_lcS, ↓x_lockE, ↓x_eqA, ↓x_dictD, ↓x_disp, ↓x_pNil, ↓x_pCons, ↓x_forS, ↓x_diSL, ↓x_diKeys, ↓x_lock, ↓x_dictP, ↓x_fld, ↓x_fldS, ↓x_fldA, ↓x_meth, ↓x_make, ↓x_dget, ↓x_din, ↓x_dget1, ↓x_dget2, ↓x_dpop, ↓x_dput, ↓x_listD, ↓x_sortDI, ↓x_lenD, ↓x_isiC, x_icS, x_icI, x_icB, x_icN, x_ioS, x_ioI, x_ioB, x_ioN, ↓x_gSub, ↓x_sortDL, ↓x_eqO, ↓x_ninA, x_catN, x_isBB, x_isBN, x_isBI, x_isBS, x_isBR, ↓x_seq, ↓x_nx, ↓x_pass, ↓x_brk, ↓x_cnt, ↓x_drop, ↓x_ret, ↓x_retN, ↓x_ifS, ↓x_set, ↓x_asg, ↓x_gN, ↓x_gT, ↓x_gsC, ↓x_gsN, ↓x_var, x_rdv, ↓x_c, ↓x_op, ↓x_test, x_tst, ↓x_and, ↓x_or, ↓x_not, ↓x_andV, ↓x_orV, ↓x_notV, x_tstV, ↓x_ifE, x_true, x_false, ↓x_nil, ↓x_cons, ↓x_tup, ↓x_lst, ↓x_new, ↓x_newD, ↓x_call, ↓x_cb, x_oI, x_oIc, x_oS, x_addS, x_isN, x_notN, x_eqI, x_eqS, x_eqIS, x_eqSI, x_eqNS, x_neI, x_neS, x_neB, x_eqB, x_few, x_need, ↓x_ix, x_lenS, x_ixL0, x_ixT0, x_ixT1, x_ixT2, x_ixT3, x_ixT4, x_lenL, x_lenT, x_lenC, x_listL, x_listT, x_tupL, x_tupT, x_strI, x_strS, x_int1, x_intB, x_I1, x_I2, x_cat, x_catT, ↓x_split, ↓x_for, ↓x_cut, ↓x_lc, ↓x_whl, ↓x_diL, ↓x_diT, ↓x_diS, x_itL, x_itC, x_itT, x_itS, ↓x_diR1, ↓x_diR2, ↓x_diE, x_enmL, x_enmC, ↓x_gcN, ↓x_gcT, ↓x_yes, ↓x_ml, ↓x_ms, x_strq, x_ss, x_ssc, x_ssi, ↓x_join, ↓x_aug, x_st2I, ↓x_sl, ↓x_noP, ↓x_part, x_intq, x_slL, x_slC, x_slS, ↓x_in, x_inT, x_inL, x_ninT, x_ninL, x_inN, x_inSS, x_inSI, x_inIS, x_inII, ↓x_sg, x_sgS, x_nsgS, ↓x_eqD, ↓x_inDD, x_mulS, ↓x_isi, x_isiS, x_isiI, x_isiB, x_isiN, x_isiL, x_isiT, ↓x_isTT, x_itI, x_itStr, x_itN, x_itB, x_itLst, x_itTup, ↓x_any, ↓x_all, ↓x_sum, ↓x_srtI, ↓x_srtS, ↓x_intS, ↓x_lenRf, ↓x_tupRf, ↓x_frz', x_flS, x_flI, x_flN, x_flB, x_cs_bool, x_isB_NoneType_bool, x_isB_bool_bool, x_isB_int_bool, x_isB_str_bool, x_isB_list_bool, x_isB_tuple_bool, x_isB_dict_bool, x_cs_int, x_isB_NoneType_int, x_isB_bool_int, x_isB_int_int, x_isB_str_int, x_isB_list_int, x_isB_tuple_int, x_isB_dict_int, x_cs_str, x_isB_NoneType_str, x_isB_bool_str, x_isB_int_str, x_isB_str_str, x_isB_list_str, x_isB_tuple_str, x_isB_dict_str, x_cs_list, x_isB_NoneType_list, x_isB_bool_list, x_isB_int_list, x_isB_str_list, x_isB_list_list, x_isB_tuple_list, x_isB_dict_list, x_cs_tuple, x_isB_NoneType_tuple, x_isB_bool_tuple, x_isB_int_tuple, x_isB_str_tuple, x_isB_list_tuple, x_isB_tuple_tuple, x_isB_dict_tuple, x_cs_dict, x_isB_NoneType_dict, x_isB_bool_dict, x_isB_int_dict, x_isB_str_dict, x_isB_list_dict, x_isB_tuple_dict, x_isB_dict_dict, List.all_cons, List.all_nil, Bool.and_self, Bool.or_false, Bool.or_true, Bool.false_or, Bool.true_or, wipeD, setD, DL.isNon, List.set_cons_zero, List.set_cons_succ, List.getElem?_cons_zero, List.getElem?_cons_succ, List.length_cons, List.length_nil, Nat.zero_add, List.cons_append, List.nil_append, decide_true, decide_false, Bool.not_true, Bool.not_false, true_and, and_true, startD, List.map_cons, List.map_nil, Nat.reduceSub, Nat.reduceLeDiff, Nat.zero_le, Int.reduceLT, Int.reduceLE, and_self, Nat.reduceAdd, List.replicate])
theorem ints_any (ys : List Int) : (D.list (ys.map D.int)).any = true := by
  rw [D.any]
  induction ys with
  | nil => rfl
  | cons a l ih => rw [List.map_cons, anyL, ih]; rfl
/-- the law's own store beside the well -/
theorem m_keep {M : ML → Addr} {x : Mx} {s : Hs} {S S' : Sto} {w : Addr} (R : MRep M x s S) (hw : ∀ l, mC M x s l ≠ none → M l ≠ w) (f : ∀ y, y ≠ w → S' y = S y) : MRep M x s S' := ⟨fun {l o} h => by rw [f _ (hw l (nn h))]; exact R.at_ h, R.inj⟩
end
end K

set_option Elab.async false
set_option linter.all false
set_option maxRecDepth 100000
namespace K
open PySem L2 Evl EX DL HM
/-- the asker's dict of things -/
def thD (H : HA) (m : Nat) : List (Key × D) := (List.range m).map fun i : Nat => ((.inl ((i + 1 : Nat) : Int) : Key), D.ref (H.a (.t (i + 1))))
section
variable {P : Program} {w : World} {K : PySem.W.Frag} {mg : Str → Option Value} {base : Heap} {CT CH : Addr} {en : Ed}
local macro_rules | `(tactic| walk_at "dl") => `(tactic| try simp only [↓x_neg, ↓x_lcS, ↓x_lockE, ↓x_eqA, ↓x_dictD, ↓x_disp, ↓x_pNil, ↓x_pCons, ↓x_forS, ↓x_diSL, ↓x_diKeys, ↓x_lock, ↓x_dictP, ↓x_fld, ↓x_fldS, ↓x_fldA, ↓x_meth, ↓x_make, ↓x_dget, ↓x_din, ↓x_dget1, ↓x_dget2, ↓x_dpop, ↓x_dput, ↓x_listD, ↓x_sortDI, ↓x_lenD, ↓x_isiC, x_icS, x_icI, x_icB, x_icN, x_ioS, x_ioI, x_ioB, x_ioN, ↓x_gSub, ↓x_sortDL, ↓x_eqO, ↓x_ninA, x_catN, x_isBB, x_isBN, x_isBI, x_isBS, x_isBR, ↓x_seq, ↓x_nx, ↓x_pass, ↓x_brk, ↓x_cnt, ↓x_drop, ↓x_ret, ↓x_retN, ↓x_ifS, ↓x_set, ↓x_asg, ↓x_gN, ↓x_gT, ↓x_gsC, ↓x_gsN, ↓x_var, x_rdv, ↓x_c, ↓x_op, ↓x_test, x_tst, ↓x_and, ↓x_or, ↓x_not, ↓x_andV, ↓x_orV, ↓x_notV, x_tstV, ↓x_ifE, x_true, x_false, ↓x_nil, ↓x_cons, ↓x_tup, ↓x_lst, ↓x_new, ↓x_newD, ↓x_call, ↓x_cb, x_oI, x_oIc, x_oS, x_addS, x_isN, x_notN, x_eqI, x_eqS, x_eqIS, x_eqSI, x_eqNS, x_neI, x_neS, x_neB, x_eqB, x_few, x_need, ↓x_ix, x_lenS, x_ixL0, x_ixT0, x_ixT1, x_ixT2, x_ixT3, x_ixT4, x_lenL, x_lenT, x_lenC, x_listL, x_listT, x_tupL, x_tupT, x_strI, x_strS, x_int1, x_intB, x_I1, x_I2, x_cat, x_catT, ↓x_split, ↓x_for, ↓x_cut, ↓x_lc, ↓x_whl, ↓x_diL, ↓x_diT, ↓x_diS, x_itL, x_itC, x_itT, x_itS, ↓x_diR1, ↓x_diR2, ↓x_diE, x_enmL, x_enmC, ↓x_gcN, ↓x_gcT, ↓x_yes, ↓x_ml, ↓x_ms, x_strq, x_ss, x_ssc, x_ssi, ↓x_join, ↓x_aug, x_st2I, ↓x_sl, ↓x_noP, ↓x_part, x_intq, x_slL, x_slC, x_slS, ↓x_in, x_inT, x_inL, x_ninT, x_ninL, x_inN, x_inSS, x_inSI, x_inIS, x_inII, ↓x_sg, x_sgS, x_nsgS, ↓x_eqD, ↓x_inDD, x_mulS, ↓x_isi, x_isiS, x_isiI, x_isiB, x_isiN, x_isiL, x_isiT, ↓x_isTT, x_itI, x_itStr, x_itN, x_itB, x_itLst, x_itTup, ↓x_any, ↓x_all, ↓x_sum, ↓x_srtI, ↓x_srtS, ↓x_intS, ↓x_lenRf, ↓x_tupRf, ↓x_frz', x_flS, x_flI, x_flN, x_flB, x_cs_bool, x_isB_NoneType_bool, x_isB_bool_bool, x_isB_int_bool, x_isB_str_bool, x_isB_list_bool, x_isB_tuple_bool, x_isB_dict_bool, x_cs_int, x_isB_NoneType_int, x_isB_bool_int, x_isB_int_int, x_isB_str_int, x_isB_list_int, x_isB_tuple_int, x_isB_dict_int, x_cs_str, x_isB_NoneType_str, x_isB_bool_str, x_isB_int_str, x_isB_str_str, x_isB_list_str, x_isB_tuple_str, x_isB_dict_str, x_cs_list, x_isB_NoneType_list, x_isB_bool_list, x_isB_int_list, x_isB_str_list, x_isB_list_list, x_isB_tuple_list, x_isB_dict_list, x_cs_tuple, x_isB_NoneType_tuple, x_isB_bool_tuple, x_isB_int_tuple, x_isB_str_tuple, x_isB_list_tuple, x_isB_tuple_tuple, x_isB_dict_tuple, x_cs_dict, x_isB_NoneType_dict, x_isB_bool_dict, x_isB_int_dict, x_isB_str_dict, x_isB_list_dict, x_isB_tuple_dict, x_isB_dict_dict, List.all_cons, List.all_nil, Bool.and_self, Bool.or_false, Bool.or_true, Bool.false_or, Bool.true_or, wipeD, setD, DL.isNon, List.set_cons_zero, List.set_cons_succ, List.getElem?_cons_zero, List.getElem?_cons_succ, List.length_cons, List.length_nil, Nat.zero_add, List.cons_append, List.nil_append, decide_true, decide_false, Bool.not_true, Bool.not_false, true_and, and_true, startD, List.map_cons, List.map_nil, Nat.reduceSub, Nat.reduceLeDiff, Nat.zero_le, Int.reduceLT, Int.reduceLE, and_self, Nat.reduceAdd, List.replicate])
end
end K

set_option Elab.async false
set_option linter.all false
set_option maxRecDepth 100000
namespace K
open PySem L2 Evl EX DL HM
/-- the hall and the law's own beside one another -/
structure Lw (CT CH : Addr) (k : Nat) (H : HA) (M : ML → Addr) (x : Mx) (s : Hs) (th w : Addr) (S : Sto) : Prop where
  h : HRep CT CH .non H s S
  m : MRep M x s S
  ap : Apart H.a (hC CT CH .non H s) M (mC M x s)
  W : Wf s
  G : Good s
  row : s.row = none
  mo : ∀ n, s.mine.count n ≤ s.outer.count n
  kk : ∀ n, ∀ kv ∈ s.parts n, kv.1 ∈ K6
  hth : S th = some (.dct (thD H s.many))
  wl : Well S w
  ht : ∀ l, hC CT CH .non H s l ≠ none → th ≠ H.a l
  hw : ∀ l, hC CT CH .non H s l ≠ none → w ≠ H.a l
  mt : ∀ l, mC M x s l ≠ none → th ≠ M l
  mw : ∀ l, mC M x s l ≠ none → w ≠ M l
  lo : s.outer.length ≤ k
  lm : s.mine.length ≤ k
  ln : s.many ≤ k
theorem keys_len {l : List (Key × Vl)} (h1 : (l.map (·.1)).Nodup) (h2 : ∀ kv ∈ l, kv.1 ∈ K6) : l.length ≤ 9 := by
  have key : ∀ (ks : List Key) (l : List Key), l.Nodup → (∀ k ∈ l, k ∈ ks) → l.length ≤ ks.length := by
    intro ks
    induction ks with
    | nil =>
      intro l _ h
      cases l with
      | nil => exact Nat.le_refl _
      | cons a l => exact absurd (h a (List.mem_cons_self ..)) (by simp)
    | cons a ks ih =>
      intro l nd h
      by_cases z : a ∈ l
      · have := ih (l.filter fun k => decide (k ≠ a)) (nd.sublist List.filter_sublist) fun k hk => by
          obtain ⟨h3, h4⟩ := List.mem_filter.mp hk
          exact (List.mem_cons.mp (h k h3)).resolve_left (of_decide_eq_true h4)
        have h5 : ∀ (l : List Key), l.Nodup → a ∈ l → (l.filter fun k => decide (k ≠ a)).length + 1 = l.length := by
          intro l
          induction l with
          | nil => intro _ h; cases h
          | cons b l ih2 =>
            intro nd h
            obtain ⟨n1, n2⟩ := List.nodup_cons.mp nd
            rw [List.filter_cons]
            by_cases y : b = a
            · subst y
              rw [if_neg (by simp)]
              have : (l.filter fun k => decide (k ≠ b)) = l := List.filter_eq_self.mpr fun k hk => by rw [decide_eq_true_iff]; exact fun w => n1 (w ▸ hk)
              rw [this, List.length_cons]
            · rw [if_pos (by simpa using y), List.length_cons, List.length_cons, ih2 n2 ((List.mem_cons.mp h).resolve_left (Ne.symm y))]
        have := h5 l nd z
        rw [List.length_cons]
        omega
      · have := ih l nd fun k hk => (List.mem_cons.mp (h k hk)).resolve_left fun e => z (e ▸ hk)
        rw [List.length_cons]
        omega
  have := key K6 (l.map (·.1)) h1 fun k hk => by obtain ⟨kv, h3, rfl⟩ := List.mem_map.mp hk; exact h2 kv h3
  rw [List.length_map] at this
  exact this
/-- a deed that may be done can be done -/
structure Nx (s s' : Hs) : Prop where
  W : Wf s'
  G : Good s'
  row : s'.row = none
  mo : ∀ n, s'.mine.count n ≤ s'.outer.count n
  kk : ∀ n, ∀ kv ∈ s'.parts n, kv.1 ∈ K6
  lo : s'.outer.length ≤ s.outer.length + 1
  lm : s'.mine.length ≤ s.mine.length + 1
  ln : s'.many ≤ s.many + 1
section
variable {P : Program} {w : World} {K : PySem.W.Frag} {mg : Str → Option Value} {base : Heap} {CT CH : Addr}
local macro_rules | `(tactic| walk_at "dl") => `(tactic| try simp only [↓x_neg, ↓x_lcS, ↓x_lockE, ↓x_eqA, ↓x_dictD, ↓x_disp, ↓x_pNil, ↓x_pCons, ↓x_forS, ↓x_diSL, ↓x_diKeys, ↓x_lock, ↓x_dictP, ↓x_fld, ↓x_fldS, ↓x_fldA, ↓x_meth, ↓x_make, ↓x_dget, ↓x_din, ↓x_dget1, ↓x_dget2, ↓x_dpop, ↓x_dput, ↓x_listD, ↓x_sortDI, ↓x_lenD, ↓x_isiC, x_icS, x_icI, x_icB, x_icN, x_ioS, x_ioI, x_ioB, x_ioN, ↓x_gSub, ↓x_sortDL, ↓x_eqO, ↓x_ninA, x_catN, x_isBB, x_isBN, x_isBI, x_isBS, x_isBR, ↓x_seq, ↓x_nx, ↓x_pass, ↓x_brk, ↓x_cnt, ↓x_drop, ↓x_ret, ↓x_retN, ↓x_ifS, ↓x_set, ↓x_asg, ↓x_gN, ↓x_gT, ↓x_gsC, ↓x_gsN, ↓x_var, x_rdv, ↓x_c, ↓x_op, ↓x_test, x_tst, ↓x_and, ↓x_or, ↓x_not, ↓x_andV, ↓x_orV, ↓x_notV, x_tstV, ↓x_ifE, x_true, x_false, ↓x_nil, ↓x_cons, ↓x_tup, ↓x_lst, ↓x_new, ↓x_newD, ↓x_call, ↓x_cb, x_oI, x_oIc, x_oS, x_addS, x_isN, x_notN, x_eqI, x_eqS, x_eqIS, x_eqSI, x_eqNS, x_neI, x_neS, x_neB, x_eqB, x_few, x_need, ↓x_ix, x_lenS, x_ixL0, x_ixT0, x_ixT1, x_ixT2, x_ixT3, x_ixT4, x_lenL, x_lenT, x_lenC, x_listL, x_listT, x_tupL, x_tupT, x_strI, x_strS, x_int1, x_intB, x_I1, x_I2, x_cat, x_catT, ↓x_split, ↓x_for, ↓x_cut, ↓x_lc, ↓x_whl, ↓x_diL, ↓x_diT, ↓x_diS, x_itL, x_itC, x_itT, x_itS, ↓x_diR1, ↓x_diR2, ↓x_diE, x_enmL, x_enmC, ↓x_gcN, ↓x_gcT, ↓x_yes, ↓x_ml, ↓x_ms, x_strq, x_ss, x_ssc, x_ssi, ↓x_join, ↓x_aug, x_st2I, ↓x_sl, ↓x_noP, ↓x_part, x_intq, x_slL, x_slC, x_slS, ↓x_in, x_inT, x_inL, x_ninT, x_ninL, x_inN, x_inSS, x_inSI, x_inIS, x_inII, ↓x_sg, x_sgS, x_nsgS, ↓x_eqD, ↓x_inDD, x_mulS, ↓x_isi, x_isiS, x_isiI, x_isiB, x_isiN, x_isiL, x_isiT, ↓x_isTT, x_itI, x_itStr, x_itN, x_itB, x_itLst, x_itTup, ↓x_any, ↓x_all, ↓x_sum, ↓x_srtI, ↓x_srtS, ↓x_intS, ↓x_lenRf, ↓x_tupRf, ↓x_frz', x_flS, x_flI, x_flN, x_flB, x_cs_bool, x_isB_NoneType_bool, x_isB_bool_bool, x_isB_int_bool, x_isB_str_bool, x_isB_list_bool, x_isB_tuple_bool, x_isB_dict_bool, x_cs_int, x_isB_NoneType_int, x_isB_bool_int, x_isB_int_int, x_isB_str_int, x_isB_list_int, x_isB_tuple_int, x_isB_dict_int, x_cs_str, x_isB_NoneType_str, x_isB_bool_str, x_isB_int_str, x_isB_str_str, x_isB_list_str, x_isB_tuple_str, x_isB_dict_str, x_cs_list, x_isB_NoneType_list, x_isB_bool_list, x_isB_int_list, x_isB_str_list, x_isB_list_list, x_isB_tuple_list, x_isB_dict_list, x_cs_tuple, x_isB_NoneType_tuple, x_isB_bool_tuple, x_isB_int_tuple, x_isB_str_tuple, x_isB_list_tuple, x_isB_tuple_tuple, x_isB_dict_tuple, x_cs_dict, x_isB_NoneType_dict, x_isB_bool_dict, x_isB_int_dict, x_isB_str_dict, x_isB_list_dict, x_isB_tuple_dict, x_isB_dict_dict, List.all_cons, List.all_nil, Bool.and_self, Bool.or_false, Bool.or_true, Bool.false_or, Bool.true_or, wipeD, setD, DL.isNon, List.set_cons_zero, List.set_cons_succ, List.getElem?_cons_zero, List.getElem?_cons_succ, List.length_cons, List.length_nil, Nat.zero_add, List.cons_append, List.nil_append, decide_true, decide_false, Bool.not_true, Bool.not_false, true_and, and_true, startD, List.map_cons, List.map_nil, Nat.reduceSub, Nat.reduceLeDiff, Nat.zero_le, Int.reduceLT, Int.reduceLE, and_self, Nat.reduceAdd, List.replicate])
end
end K

set_option Elab.async false
set_option linter.all false
set_option maxRecDepth 100000
namespace K
open PySem L2 Evl EX DL HM

/-- known things, by their numbers -/
def thL (H : HA) (ks : List Nat) : List (Key × D) := ks.map fun n : Nat => ((.inl (n : Int), .ref (H.a (.t n))) : Key × D)
structure Kn (m : Nat) (ks : List Nat) : Prop where
  nd : ks.Nodup
  rg : ∀ n ∈ ks, 1 ≤ n ∧ n ≤ m
theorem kn_all (m : Nat) : Kn m ((List.range m).map (· + 1)) := ⟨by
  rw [List.nodup_iff_pairwise_ne, List.pairwise_map]
  exact List.Pairwise.imp (fun h => by omega) (List.nodup_iff_pairwise_ne.mp List.nodup_range), fun n hn => by
  obtain ⟨i, hi, rfl⟩ := List.mem_map.mp hn
  have := List.mem_range.mp hi
  omega⟩
theorem nodup_le {m : Nat} : ∀ (ks : List Nat), ks.Nodup → (∀ n ∈ ks, 1 ≤ n ∧ n ≤ m) → ks.length ≤ m := by
  induction m with
  | zero =>
    intro ks _ h
    cases ks with
    | nil => exact Nat.le_refl _
    | cons a l => have := h a (List.mem_cons_self ..); omega
  | succ m ih =>
    intro ks nd h
    have h1 := ih (ks.erase (m + 1)) (nd.erase _) fun n hn => by
      obtain ⟨h2, h3⟩ := (nd.mem_erase_iff).mp hn
      have := h n h3
      omega
    have := List.length_erase (a := m + 1) (l := ks)
    rw [this] at h1
    split at h1 <;> omega
theorem Kn.le {m : Nat} {ks : List Nat} (k : Kn m ks) : ks.length ≤ m := nodup_le ks k.nd k.rg
section
variable {P : Program} {w : World} {K : PySem.W.Frag} {mg : Str → Option Value} {base : Heap} {CT CH : Addr}
local macro_rules | `(tactic| walk_at "dl") => `(tactic| try simp only [↓x_neg, ↓x_lcS, ↓x_lockE, ↓x_eqA, ↓x_dictD, ↓x_disp, ↓x_pNil, ↓x_pCons, ↓x_forS, ↓x_diSL, ↓x_diKeys, ↓x_lock, ↓x_dictP, ↓x_fld, ↓x_fldS, ↓x_fldA, ↓x_meth, ↓x_make, ↓x_dget, ↓x_din, ↓x_dget1, ↓x_dget2, ↓x_dpop, ↓x_dput, ↓x_listD, ↓x_sortDI, ↓x_lenD, ↓x_isiC, x_icS, x_icI, x_icB, x_icN, x_ioS, x_ioI, x_ioB, x_ioN, ↓x_gSub, ↓x_sortDL, ↓x_eqO, ↓x_ninA, x_catN, x_isBB, x_isBN, x_isBI, x_isBS, x_isBR, ↓x_seq, ↓x_nx, ↓x_pass, ↓x_brk, ↓x_cnt, ↓x_drop, ↓x_ret, ↓x_retN, ↓x_ifS, ↓x_set, ↓x_asg, ↓x_gN, ↓x_gT, ↓x_gsC, ↓x_gsN, ↓x_var, x_rdv, ↓x_c, ↓x_op, ↓x_test, x_tst, ↓x_and, ↓x_or, ↓x_not, ↓x_andV, ↓x_orV, ↓x_notV, x_tstV, ↓x_ifE, x_true, x_false, ↓x_nil, ↓x_cons, ↓x_tup, ↓x_lst, ↓x_new, ↓x_newD, ↓x_call, ↓x_cb, x_oI, x_oIc, x_oS, x_addS, x_isN, x_notN, x_eqI, x_eqS, x_eqIS, x_eqSI, x_eqNS, x_neI, x_neS, x_neB, x_eqB, x_few, x_need, ↓x_ix, x_lenS, x_ixL0, x_ixT0, x_ixT1, x_ixT2, x_ixT3, x_ixT4, x_lenL, x_lenT, x_lenC, x_listL, x_listT, x_tupL, x_tupT, x_strI, x_strS, x_int1, x_intB, x_I1, x_I2, x_cat, x_catT, ↓x_split, ↓x_for, ↓x_cut, ↓x_lc, ↓x_whl, ↓x_diL, ↓x_diT, ↓x_diS, x_itL, x_itC, x_itT, x_itS, ↓x_diR1, ↓x_diR2, ↓x_diE, x_enmL, x_enmC, ↓x_gcN, ↓x_gcT, ↓x_yes, ↓x_ml, ↓x_ms, x_strq, x_ss, x_ssc, x_ssi, ↓x_join, ↓x_aug, x_st2I, ↓x_sl, ↓x_noP, ↓x_part, x_intq, x_slL, x_slC, x_slS, ↓x_in, x_inT, x_inL, x_ninT, x_ninL, x_inN, x_inSS, x_inSI, x_inIS, x_inII, ↓x_sg, x_sgS, x_nsgS, ↓x_eqD, ↓x_inDD, x_mulS, ↓x_isi, x_isiS, x_isiI, x_isiB, x_isiN, x_isiL, x_isiT, ↓x_isTT, x_itI, x_itStr, x_itN, x_itB, x_itLst, x_itTup, ↓x_any, ↓x_all, ↓x_sum, ↓x_srtI, ↓x_srtS, ↓x_intS, ↓x_lenRf, ↓x_tupRf, ↓x_frz', x_flS, x_flI, x_flN, x_flB, x_cs_bool, x_isB_NoneType_bool, x_isB_bool_bool, x_isB_int_bool, x_isB_str_bool, x_isB_list_bool, x_isB_tuple_bool, x_isB_dict_bool, x_cs_int, x_isB_NoneType_int, x_isB_bool_int, x_isB_int_int, x_isB_str_int, x_isB_list_int, x_isB_tuple_int, x_isB_dict_int, x_cs_str, x_isB_NoneType_str, x_isB_bool_str, x_isB_int_str, x_isB_str_str, x_isB_list_str, x_isB_tuple_str, x_isB_dict_str, x_cs_list, x_isB_NoneType_list, x_isB_bool_list, x_isB_int_list, x_isB_str_list, x_isB_list_list, x_isB_tuple_list, x_isB_dict_list, x_cs_tuple, x_isB_NoneType_tuple, x_isB_bool_tuple, x_isB_int_tuple, x_isB_str_tuple, x_isB_list_tuple, x_isB_tuple_tuple, x_isB_dict_tuple, x_cs_dict, x_isB_NoneType_dict, x_isB_bool_dict, x_isB_int_dict, x_isB_str_dict, x_isB_list_dict, x_isB_tuple_dict, x_isB_dict_dict, List.all_cons, List.all_nil, Bool.and_self, Bool.or_false, Bool.or_true, Bool.false_or, Bool.true_or, wipeD, setD, DL.isNon, List.set_cons_zero, List.set_cons_succ, List.getElem?_cons_zero, List.getElem?_cons_succ, List.length_cons, List.length_nil, Nat.zero_add, List.cons_append, List.nil_append, decide_true, decide_false, Bool.not_true, Bool.not_false, true_and, and_true, startD, List.map_cons, List.map_nil, Nat.reduceSub, Nat.reduceLeDiff, Nat.zero_le, Int.reduceLT, Int.reduceLE, and_self, Nat.reduceAdd, List.replicate])
end
end K

set_option Elab.async false
set_option linter.all false
set_option maxRecDepth 100000
namespace K
open PySem L2 Evl EX DL HM
section
variable {P : Program} {w : World} {K : PySem.W.Frag} {mg : Str → Option Value} {base : Heap} {CT CH : Addr}
local macro_rules | `(tactic| walk_at "dl") => `(tactic| try simp only [↓x_neg, ↓x_lcS, ↓x_lockE, ↓x_eqA, ↓x_dictD, ↓x_disp, ↓x_pNil, ↓x_pCons, ↓x_forS, ↓x_diSL, ↓x_diKeys, ↓x_lock, ↓x_dictP, ↓x_fld, ↓x_fldS, ↓x_fldA, ↓x_meth, ↓x_make, ↓x_dget, ↓x_din, ↓x_dget1, ↓x_dget2, ↓x_dpop, ↓x_dput, ↓x_listD, ↓x_sortDI, ↓x_lenD, ↓x_isiC, x_icS, x_icI, x_icB, x_icN, x_ioS, x_ioI, x_ioB, x_ioN, ↓x_gSub, ↓x_sortDL, ↓x_eqO, ↓x_ninA, x_catN, x_isBB, x_isBN, x_isBI, x_isBS, x_isBR, ↓x_seq, ↓x_nx, ↓x_pass, ↓x_brk, ↓x_cnt, ↓x_drop, ↓x_ret, ↓x_retN, ↓x_ifS, ↓x_set, ↓x_asg, ↓x_gN, ↓x_gT, ↓x_gsC, ↓x_gsN, ↓x_var, x_rdv, ↓x_c, ↓x_op, ↓x_test, x_tst, ↓x_and, ↓x_or, ↓x_not, ↓x_andV, ↓x_orV, ↓x_notV, x_tstV, ↓x_ifE, x_true, x_false, ↓x_nil, ↓x_cons, ↓x_tup, ↓x_lst, ↓x_new, ↓x_newD, ↓x_call, ↓x_cb, x_oI, x_oIc, x_oS, x_addS, x_isN, x_notN, x_eqI, x_eqS, x_eqIS, x_eqSI, x_eqNS, x_neI, x_neS, x_neB, x_eqB, x_few, x_need, ↓x_ix, x_lenS, x_ixL0, x_ixT0, x_ixT1, x_ixT2, x_ixT3, x_ixT4, x_lenL, x_lenT, x_lenC, x_listL, x_listT, x_tupL, x_tupT, x_strI, x_strS, x_int1, x_intB, x_I1, x_I2, x_cat, x_catT, ↓x_split, ↓x_for, ↓x_cut, ↓x_lc, ↓x_whl, ↓x_diL, ↓x_diT, ↓x_diS, x_itL, x_itC, x_itT, x_itS, ↓x_diR1, ↓x_diR2, ↓x_diE, x_enmL, x_enmC, ↓x_gcN, ↓x_gcT, ↓x_yes, ↓x_ml, ↓x_ms, x_strq, x_ss, x_ssc, x_ssi, ↓x_join, ↓x_aug, x_st2I, ↓x_sl, ↓x_noP, ↓x_part, x_intq, x_slL, x_slC, x_slS, ↓x_in, x_inT, x_inL, x_ninT, x_ninL, x_inN, x_inSS, x_inSI, x_inIS, x_inII, ↓x_sg, x_sgS, x_nsgS, ↓x_eqD, ↓x_inDD, x_mulS, ↓x_isi, x_isiS, x_isiI, x_isiB, x_isiN, x_isiL, x_isiT, ↓x_isTT, x_itI, x_itStr, x_itN, x_itB, x_itLst, x_itTup, ↓x_any, ↓x_all, ↓x_sum, ↓x_srtI, ↓x_srtS, ↓x_intS, ↓x_lenRf, ↓x_tupRf, ↓x_frz', x_flS, x_flI, x_flN, x_flB, x_cs_bool, x_isB_NoneType_bool, x_isB_bool_bool, x_isB_int_bool, x_isB_str_bool, x_isB_list_bool, x_isB_tuple_bool, x_isB_dict_bool, x_cs_int, x_isB_NoneType_int, x_isB_bool_int, x_isB_int_int, x_isB_str_int, x_isB_list_int, x_isB_tuple_int, x_isB_dict_int, x_cs_str, x_isB_NoneType_str, x_isB_bool_str, x_isB_int_str, x_isB_str_str, x_isB_list_str, x_isB_tuple_str, x_isB_dict_str, x_cs_list, x_isB_NoneType_list, x_isB_bool_list, x_isB_int_list, x_isB_str_list, x_isB_list_list, x_isB_tuple_list, x_isB_dict_list, x_cs_tuple, x_isB_NoneType_tuple, x_isB_bool_tuple, x_isB_int_tuple, x_isB_str_tuple, x_isB_list_tuple, x_isB_tuple_tuple, x_isB_dict_tuple, x_cs_dict, x_isB_NoneType_dict, x_isB_bool_dict, x_isB_int_dict, x_isB_str_dict, x_isB_list_dict, x_isB_tuple_dict, x_isB_dict_dict, List.all_cons, List.all_nil, Bool.and_self, Bool.or_false, Bool.or_true, Bool.false_or, Bool.true_or, wipeD, setD, DL.isNon, List.set_cons_zero, List.set_cons_succ, List.getElem?_cons_zero, List.getElem?_cons_succ, List.length_cons, List.length_nil, Nat.zero_add, List.cons_append, List.nil_append, decide_true, decide_false, Bool.not_true, Bool.not_false, true_and, and_true, startD, List.map_cons, List.map_nil, Nat.reduceSub, Nat.reduceLeDiff, Nat.zero_le, Int.reduceLT, Int.reduceLE, and_self, Nat.reduceAdd, List.replicate])
theorem sorted_eq : ∀ {a b : List Int}, a.Perm b → a.Pairwise (· ≤ ·) → b.Pairwise (· ≤ ·) → a = b
  | [], b, p, _, _ => (List.Perm.nil_eq p)
  | x :: a, [], p, _, _ => absurd p.length_eq (by simp)
  | x :: a, y :: b, p, h1, h2 => by
    obtain ⟨g1, g2⟩ := List.pairwise_cons.mp h1
    obtain ⟨g3, g4⟩ := List.pairwise_cons.mp h2
    have hx : x ∈ y :: b := p.mem_iff.mp (List.mem_cons_self ..)
    have hy : y ∈ x :: a := p.mem_iff.mpr (List.mem_cons_self ..)
    have e : x = y := by
      rcases List.mem_cons.mp hx with h | h
      · exact h
      · rcases List.mem_cons.mp hy with h' | h'
        · exact h'.symm
        · exact Int.le_antisymm (g1 y h') (g3 x h)
    subst e
    rw [sorted_eq (List.Perm.cons_inv p) g2 g4]
theorem ints_deepL : ∀ (ys : List Int), deepL (ys.map D.int) = 0
  | [] => rfl
  | y :: ys => by rw [List.map_cons, deepL, ints_deepL ys]; rfl
theorem ints_deep (ys : List Int) : (D.list (ys.map D.int)).deep = 1 := by rw [D.deep, ints_deepL]
end
end K

set_option Elab.async false
set_option linter.all false
set_option maxRecDepth 100000
namespace K
open PySem L2 Evl EX DL HM
/-- a deed with which a hall is begun -/
def Bg : Dl → Prop
  | .new _ => True
  | .hold _ => True
  | .part (.put _ k v) => k ∈ K6 ∧ ∀ y, v = .no y → NoTh y
  | _ => False
/-- deeds so far -/
structure Bn (w p : Addr) (S0 : Sto) (c : Nat) (S : Sto) (dl : List Dl) : Prop where
  at_ : S p = some (.lst (dl.map Dl.d))
  bg : ∀ d ∈ dl, Bg d
  le : dl.length ≤ c
  wl : Well S w
  fr : ∀ y, y ≠ w → y ≠ p → S y = S0 y
section
variable {w p : Addr} {S0 S S' : Sto} {c : Nat} {dl : List Dl}
theorem Bn.mono (B : Bn w p S0 c S dl) {c' : Nat} (h : c ≤ c') : Bn w p S0 c' S dl := ⟨B.at_, B.bg, Nat.le_trans B.le h, B.wl, B.fr⟩
end
section
variable {P : Program} {w : World} {K : PySem.W.Frag} {mg : Str → Option Value} {base : Heap} {CT CH : Addr}
local macro_rules | `(tactic| walk_at "dl") => `(tactic| try simp only [↓x_neg, ↓x_lcS, ↓x_lockE, ↓x_eqA, ↓x_dictD, ↓x_disp, ↓x_pNil, ↓x_pCons, ↓x_forS, ↓x_diSL, ↓x_diKeys, ↓x_lock, ↓x_dictP, ↓x_fld, ↓x_fldS, ↓x_fldA, ↓x_meth, ↓x_make, ↓x_dget, ↓x_din, ↓x_dget1, ↓x_dget2, ↓x_dpop, ↓x_dput, ↓x_listD, ↓x_sortDI, ↓x_lenD, ↓x_isiC, x_icS, x_icI, x_icB, x_icN, x_ioS, x_ioI, x_ioB, x_ioN, ↓x_gSub, ↓x_sortDL, ↓x_eqO, ↓x_ninA, x_catN, x_isBB, x_isBN, x_isBI, x_isBS, x_isBR, ↓x_seq, ↓x_nx, ↓x_pass, ↓x_brk, ↓x_cnt, ↓x_drop, ↓x_ret, ↓x_retN, ↓x_ifS, ↓x_set, ↓x_asg, ↓x_gN, ↓x_gT, ↓x_gsC, ↓x_gsN, ↓x_var, x_rdv, ↓x_c, ↓x_op, ↓x_test, x_tst, ↓x_and, ↓x_or, ↓x_not, ↓x_andV, ↓x_orV, ↓x_notV, x_tstV, ↓x_ifE, x_true, x_false, ↓x_nil, ↓x_cons, ↓x_tup, ↓x_lst, ↓x_new, ↓x_newD, ↓x_call, ↓x_cb, x_oI, x_oIc, x_oS, x_addS, x_isN, x_notN, x_eqI, x_eqS, x_eqIS, x_eqSI, x_eqNS, x_neI, x_neS, x_neB, x_eqB, x_few, x_need, ↓x_ix, x_lenS, x_ixL0, x_ixT0, x_ixT1, x_ixT2, x_ixT3, x_ixT4, x_lenL, x_lenT, x_lenC, x_listL, x_listT, x_tupL, x_tupT, x_strI, x_strS, x_int1, x_intB, x_I1, x_I2, x_cat, x_catT, ↓x_split, ↓x_for, ↓x_cut, ↓x_lc, ↓x_whl, ↓x_diL, ↓x_diT, ↓x_diS, x_itL, x_itC, x_itT, x_itS, ↓x_diR1, ↓x_diR2, ↓x_diE, x_enmL, x_enmC, ↓x_gcN, ↓x_gcT, ↓x_yes, ↓x_ml, ↓x_ms, x_strq, x_ss, x_ssc, x_ssi, ↓x_join, ↓x_aug, x_st2I, ↓x_sl, ↓x_noP, ↓x_part, x_intq, x_slL, x_slC, x_slS, ↓x_in, x_inT, x_inL, x_ninT, x_ninL, x_inN, x_inSS, x_inSI, x_inIS, x_inII, ↓x_sg, x_sgS, x_nsgS, ↓x_eqD, ↓x_inDD, x_mulS, ↓x_isi, x_isiS, x_isiI, x_isiB, x_isiN, x_isiL, x_isiT, ↓x_isTT, x_itI, x_itStr, x_itN, x_itB, x_itLst, x_itTup, ↓x_any, ↓x_all, ↓x_sum, ↓x_srtI, ↓x_srtS, ↓x_intS, ↓x_lenRf, ↓x_tupRf, ↓x_frz', x_flS, x_flI, x_flN, x_flB, x_cs_bool, x_isB_NoneType_bool, x_isB_bool_bool, x_isB_int_bool, x_isB_str_bool, x_isB_list_bool, x_isB_tuple_bool, x_isB_dict_bool, x_cs_int, x_isB_NoneType_int, x_isB_bool_int, x_isB_int_int, x_isB_str_int, x_isB_list_int, x_isB_tuple_int, x_isB_dict_int, x_cs_str, x_isB_NoneType_str, x_isB_bool_str, x_isB_int_str, x_isB_str_str, x_isB_list_str, x_isB_tuple_str, x_isB_dict_str, x_cs_list, x_isB_NoneType_list, x_isB_bool_list, x_isB_int_list, x_isB_str_list, x_isB_list_list, x_isB_tuple_list, x_isB_dict_list, x_cs_tuple, x_isB_NoneType_tuple, x_isB_bool_tuple, x_isB_int_tuple, x_isB_str_tuple, x_isB_list_tuple, x_isB_tuple_tuple, x_isB_dict_tuple, x_cs_dict, x_isB_NoneType_dict, x_isB_bool_dict, x_isB_int_dict, x_isB_str_dict, x_isB_list_dict, x_isB_tuple_dict, x_isB_dict_dict, List.all_cons, List.all_nil, Bool.and_self, Bool.or_false, Bool.or_true, Bool.false_or, Bool.true_or, wipeD, setD, DL.isNon, List.set_cons_zero, List.set_cons_succ, List.getElem?_cons_zero, List.getElem?_cons_succ, List.length_cons, List.length_nil, Nat.zero_add, List.cons_append, List.nil_append, decide_true, decide_false, Bool.not_true, Bool.not_false, true_and, and_true, startD, List.map_cons, List.map_nil, Nat.reduceSub, Nat.reduceLeDiff, Nat.zero_le, Int.reduceLT, Int.reduceLE, and_self, Nat.reduceAdd, List.replicate])
end
end K

set_option Elab.async false
set_option linter.all false
set_option maxRecDepth 100000
namespace K
open PySem L2 Evl EX DL HM
section
variable {CT CH : Addr} {k : Nat} {H : HA} {M : ML → Addr} {x : Mx} {s : Hs} {th w : Addr} {S S' : Sto}
theorem Lw.well (L : Lw CT CH k H M x s th w S) (hw : Well S' w) (f : ∀ y, y ≠ w → S' y = S y) : Lw CT CH k H M x s th w S' := by
  have htw : th ≠ w := fun z => by obtain ⟨_, _, _, _, _, g, _⟩ := L.wl; rw [← z, L.hth] at g; cases g
  exact ⟨⟨fun {l o} h => by rw [f _ (Ne.symm (L.hw l (nn h)))]; exact L.h.at_ h, L.h.inj⟩, m_keep L.m (fun l hl => Ne.symm (L.mw l hl)) f, L.ap, L.W, L.G, L.row, L.mo, L.kk, by rw [f _ htw]; exact L.hth, hw, L.ht, L.hw, L.mt, L.mw, L.lo, L.lm, L.ln⟩
theorem Lw.put (L : Lw CT CH k H M x s th w S) {p : Addr} (hp : S p = none) (o : O) : Lw CT CH k H M x s th w (DL.put S p o) := by
  have ne : ∀ {a : Addr} {o : O}, S a = some o → a ≠ p := fun h z => by rw [z, hp] at h; cases h
  refine ⟨⟨fun {l o} h => by rw [put_ne (ne (L.h.at_ h))]; exact L.h.at_ h, L.h.inj⟩, ⟨fun {l o} h => by rw [put_ne (ne (L.m.at_ h))]; exact L.m.at_ h, L.m.inj⟩, L.ap, L.W, L.G, L.row, L.mo, L.kk, by rw [put_ne (ne L.hth)]; exact L.hth, ?_, L.ht, L.hw, L.mt, L.mw, L.lo, L.lm, L.ln⟩
  obtain ⟨a, b, c, d, cs, g, r⟩ := L.wl
  exact ⟨a, b, c, d, cs, by rw [put_ne (ne g)]; exact g, r⟩
theorem Lw.mono (L : Lw CT CH k H M x s th w S) {k' : Nat} (h : k ≤ k') : Lw CT CH k' H M x s th w S := ⟨L.h, L.m, L.ap, L.W, L.G, L.row, L.mo, L.kk, L.hth, L.wl, L.ht, L.hw, L.mt, L.mw, Nat.le_trans L.lo h, Nat.le_trans L.lm h, Nat.le_trans L.ln h⟩
end
section
variable {P : Program} {w : World} {K : PySem.W.Frag} {mg : Str → Option Value} {base : Heap} {CT CH : Addr}
local macro_rules | `(tactic| walk_at "dl") => `(tactic| try simp only [↓x_neg, ↓x_lcS, ↓x_lockE, ↓x_eqA, ↓x_dictD, ↓x_disp, ↓x_pNil, ↓x_pCons, ↓x_forS, ↓x_diSL, ↓x_diKeys, ↓x_lock, ↓x_dictP, ↓x_fld, ↓x_fldS, ↓x_fldA, ↓x_meth, ↓x_make, ↓x_dget, ↓x_din, ↓x_dget1, ↓x_dget2, ↓x_dpop, ↓x_dput, ↓x_listD, ↓x_sortDI, ↓x_lenD, ↓x_isiC, x_icS, x_icI, x_icB, x_icN, x_ioS, x_ioI, x_ioB, x_ioN, ↓x_gSub, ↓x_sortDL, ↓x_eqO, ↓x_ninA, x_catN, x_isBB, x_isBN, x_isBI, x_isBS, x_isBR, ↓x_seq, ↓x_nx, ↓x_pass, ↓x_brk, ↓x_cnt, ↓x_drop, ↓x_ret, ↓x_retN, ↓x_ifS, ↓x_set, ↓x_asg, ↓x_gN, ↓x_gT, ↓x_gsC, ↓x_gsN, ↓x_var, x_rdv, ↓x_c, ↓x_op, ↓x_test, x_tst, ↓x_and, ↓x_or, ↓x_not, ↓x_andV, ↓x_orV, ↓x_notV, x_tstV, ↓x_ifE, x_true, x_false, ↓x_nil, ↓x_cons, ↓x_tup, ↓x_lst, ↓x_new, ↓x_newD, ↓x_call, ↓x_cb, x_oI, x_oIc, x_oS, x_addS, x_isN, x_notN, x_eqI, x_eqS, x_eqIS, x_eqSI, x_eqNS, x_neI, x_neS, x_neB, x_eqB, x_few, x_need, ↓x_ix, x_lenS, x_ixL0, x_ixT0, x_ixT1, x_ixT2, x_ixT3, x_ixT4, x_lenL, x_lenT, x_lenC, x_listL, x_listT, x_tupL, x_tupT, x_strI, x_strS, x_int1, x_intB, x_I1, x_I2, x_cat, x_catT, ↓x_split, ↓x_for, ↓x_cut, ↓x_lc, ↓x_whl, ↓x_diL, ↓x_diT, ↓x_diS, x_itL, x_itC, x_itT, x_itS, ↓x_diR1, ↓x_diR2, ↓x_diE, x_enmL, x_enmC, ↓x_gcN, ↓x_gcT, ↓x_yes, ↓x_ml, ↓x_ms, x_strq, x_ss, x_ssc, x_ssi, ↓x_join, ↓x_aug, x_st2I, ↓x_sl, ↓x_noP, ↓x_part, x_intq, x_slL, x_slC, x_slS, ↓x_in, x_inT, x_inL, x_ninT, x_ninL, x_inN, x_inSS, x_inSI, x_inIS, x_inII, ↓x_sg, x_sgS, x_nsgS, ↓x_eqD, ↓x_inDD, x_mulS, ↓x_isi, x_isiS, x_isiI, x_isiB, x_isiN, x_isiL, x_isiT, ↓x_isTT, x_itI, x_itStr, x_itN, x_itB, x_itLst, x_itTup, ↓x_any, ↓x_all, ↓x_sum, ↓x_srtI, ↓x_srtS, ↓x_intS, ↓x_lenRf, ↓x_tupRf, ↓x_frz', x_flS, x_flI, x_flN, x_flB, x_cs_bool, x_isB_NoneType_bool, x_isB_bool_bool, x_isB_int_bool, x_isB_str_bool, x_isB_list_bool, x_isB_tuple_bool, x_isB_dict_bool, x_cs_int, x_isB_NoneType_int, x_isB_bool_int, x_isB_int_int, x_isB_str_int, x_isB_list_int, x_isB_tuple_int, x_isB_dict_int, x_cs_str, x_isB_NoneType_str, x_isB_bool_str, x_isB_int_str, x_isB_str_str, x_isB_list_str, x_isB_tuple_str, x_isB_dict_str, x_cs_list, x_isB_NoneType_list, x_isB_bool_list, x_isB_int_list, x_isB_str_list, x_isB_list_list, x_isB_tuple_list, x_isB_dict_list, x_cs_tuple, x_isB_NoneType_tuple, x_isB_bool_tuple, x_isB_int_tuple, x_isB_str_tuple, x_isB_list_tuple, x_isB_tuple_tuple, x_isB_dict_tuple, x_cs_dict, x_isB_NoneType_dict, x_isB_bool_dict, x_isB_int_dict, x_isB_str_dict, x_isB_list_dict, x_isB_tuple_dict, x_isB_dict_dict, List.all_cons, List.all_nil, Bool.and_self, Bool.or_false, Bool.or_true, Bool.false_or, Bool.true_or, wipeD, setD, DL.isNon, List.set_cons_zero, List.set_cons_succ, List.getElem?_cons_zero, List.getElem?_cons_succ, List.length_cons, List.length_nil, Nat.zero_add, List.cons_append, List.nil_append, decide_true, decide_false, Bool.not_true, Bool.not_false, true_and, and_true, startD, List.map_cons, List.map_nil, Nat.reduceSub, Nat.reduceLeDiff, Nat.zero_le, Int.reduceLT, Int.reduceLE, and_self, Nat.reduceAdd, List.replicate])
def spLaw (K : PySem.W.Frag) : Sp := fun vs H Q _ => ∃ (a : Addr) (ns : List Int), vs = [.ref a] ∧ SqL K H a (ns.map V.int) ∧ ns.length ≤ 63 ∧ ∀ H', Q (.bl true) H'
def dLaw : SpD := fun ds S k _ => ∃ ns : List Int, ds = [.scr (ns.map D.int)] ∧ ns.length ≤ 63 ∧ ∀ S', k (.bl true) S'
theorem law_of (F : FnOk P w K mg base CX0 k f fd ps (lSp K dLaw)) : FnOk P w K mg base CX0 k f fd ps (spLaw K) := F.imp fun vs H Q E ⟨a, ns, hv, hs, hl, h⟩ =>
  ⟨H, [.scr (ns.map D.int)], fun _ => none, fun x _ => x = .bl true, fun _ _ _ => False, by rw [hv]; exact .one (.scr hs (rdl_ints ns)), ⟨Ex.refl H, fun _ _ z => nomatch z⟩, ⟨ns, rfl, hl, fun _ => rfl⟩, fun x S' v B' H' hx _ _ rv => by
    subst hx
    cases rd_bl rv
    exact h H', fun _ _ _ _ _ z => z.elim⟩
end
end K

set_option Elab.async false
set_option linter.all false
set_option maxRecDepth 100000
/-! ### what is reached (no program in sight) -/
namespace HM
open PySem L2 DL
inductive Rch (G : Nat → List Vl) (ws : List Vl) : Nat → Prop where
  | root {n : Nat} : Vl.th n ∈ ws → Rch G ws n
  | step {m n : Nat} : Rch G ws m → Vl.th n ∈ G m → Rch G ws n
def msum (f : Nat → Nat) : Nat → Nat
  | 0 => 0
  | m + 1 => msum f m + f (m + 1)
theorem msum_congr {f g : Nat → Nat} : ∀ {m : Nat}, (∀ i, 1 ≤ i → i ≤ m → f i = g i) → msum f m = msum g m
  | 0, _ => rfl
  | m + 1, h => by
    unfold msum
    rw [msum_congr fun i h1 h2 => h i h1 (Nat.le_succ_of_le h2), h (m + 1) (Nat.succ_le_succ (Nat.zero_le _)) (Nat.le_refl _)]
theorem msum_dec {f g : Nat → Nat} {n d : Nat} : ∀ {m : Nat}, 1 ≤ n → n ≤ m → f n = g n + d → (∀ i, i ≠ n → f i = g i) → msum f m = msum g m + d
  | 0, h1, h2, _, _ => by omega
  | m + 1, h1, h2, h, hne => by
    unfold msum
    by_cases z : n = m + 1
    · subst z
      rw [msum_congr (f := f) (g := g) fun i _ h2 => hne i (by omega), h]
      omega
    · rw [msum_dec h1 (by omega) h hne, hne (m + 1) (Ne.symm z)]
      omega
def unmet (G : Nat → List Vl) (ks : List Nat) (n : Nat) : Nat := if n ∈ ks then 0 else (G n).length + 1
/-- how much may come yet -/
def todo (G : Nat → List Vl) (m : Nat) (ks : List Nat) (ws : List Vl) : Nat := ws.length + msum (unmet G ks) m
structure RInv (G : Nat → List Vl) (m : Nat) (roots : List Vl) (ks : List Nat) (ws : List Vl) : Prop where
  nd : ks.Nodup
  snd : ∀ n ∈ ks, Rch G roots n
  snw : ∀ n, Vl.th n ∈ ws → Rch G roots n
  rt : ∀ n, Vl.th n ∈ roots → n ∈ ks ∨ Vl.th n ∈ ws
  st : ∀ k ∈ ks, ∀ n, Vl.th n ∈ G k → n ∈ ks ∨ Vl.th n ∈ ws
  okw : ∀ v ∈ ws, VOk m v
  okk : ∀ n ∈ ks, 1 ≤ n ∧ n ≤ m
section
variable {G : Nat → List Vl} {m : Nat} {roots ws : List Vl} {ks : List Nat} {n : Nat}
theorem RInv.begin (ok : ∀ v ∈ roots, VOk m v) : RInv G m roots [] roots :=
  ⟨List.nodup_nil, fun _ h => (by cases h), fun n h => .root h, fun n h => .inr h, fun k h => (by cases h), ok, fun _ h => (by cases h)⟩
theorem RInv.non {v : Vl} (I : RInv G m roots ks (ws ++ [v])) (h : ∀ n, v = .th n → n ∈ ks) : RInv G m roots ks ws := by
  have go : ∀ n, (n ∈ ks ∨ Vl.th n ∈ ws ++ [v]) → n ∈ ks ∨ Vl.th n ∈ ws := fun n h1 => by
    rcases h1 with h1 | h1
    · exact .inl h1
    · rcases List.mem_append.mp h1 with h1 | h1
      · exact .inr h1
      · exact .inl (h n (List.mem_singleton.mp h1).symm)
  exact ⟨I.nd, I.snd, fun n h1 => I.snw n (List.mem_append_left _ h1), fun n h1 => go n (I.rt n h1), fun k hk n h1 => go n (I.st k hk n h1), fun v h1 => I.okw v (List.mem_append_left _ h1), I.okk⟩
theorem RInv.met (I : RInv G m roots ks (ws ++ [.th n])) (h : n ∉ ks) (ok : ∀ v ∈ G n, VOk m v) : RInv G m roots (ks ++ [n]) (ws ++ G n) := by
  have hr : Rch G roots n := I.snw n (List.mem_append_right _ (List.mem_singleton.mpr rfl))
  have go : ∀ i, (i ∈ ks ∨ Vl.th i ∈ ws ++ [Vl.th n]) → i ∈ ks ++ [n] ∨ Vl.th i ∈ ws ++ G n := fun i h1 => by
    rcases h1 with h1 | h1
    · exact .inl (List.mem_append_left _ h1)
    · rcases List.mem_append.mp h1 with h1 | h1
      · exact .inr (List.mem_append_left _ h1)
      · have := List.mem_singleton.mp h1
        cases this
        exact .inl (List.mem_append_right _ (List.mem_singleton.mpr rfl))
  refine ⟨List.nodup_append.mpr ⟨I.nd, by simp, fun a ha b hb e => h (by rw [← List.mem_singleton.mp hb, ← e]; exact ha)⟩, fun i hi => ?_, fun i hi => ?_, fun i hi => go i (I.rt i hi), fun k hk i hi => ?_, fun v hv => ?_, fun i hi => ?_⟩
  · rcases List.mem_append.mp hi with hi | hi
    · exact I.snd i hi
    · rw [List.mem_singleton.mp hi]; exact hr
  · rcases List.mem_append.mp hi with hi | hi
    · exact I.snw i (List.mem_append_left _ hi)
    · exact .step hr hi
  · rcases List.mem_append.mp hk with hk | hk
    · exact go i (I.st k hk i hi)
    · rw [List.mem_singleton.mp hk] at hi
      exact .inr (List.mem_append_right _ hi)
  · rcases List.mem_append.mp hv with hv | hv
    · exact I.okw v (List.mem_append_left _ hv)
    · exact ok v hv
  · rcases List.mem_append.mp hi with hi | hi
    · exact I.okk i hi
    · rw [List.mem_singleton.mp hi]
      exact I.okw (.th n) (List.mem_append_right _ (List.mem_singleton.mpr rfl))
theorem RInv.done (I : RInv G m roots ks []) (n : Nat) : n ∈ ks ↔ Rch G roots n := by
  refine ⟨I.snd n, fun h => ?_⟩
  induction h with
  | root h =>
    rcases I.rt _ h with h | h
    · exact h
    · cases h
  | step _ h ih =>
    rcases I.st _ ih _ h with h | h
    · exact h
    · cases h
theorem todo_non {v : Vl} : todo G m ks ws + 1 = todo G m ks (ws ++ [v]) := by
  unfold todo
  rw [List.length_append, List.length_singleton]
  omega
theorem todo_met (h1 : 1 ≤ n) (h2 : n ≤ m) (h : n ∉ ks) : todo G m (ks ++ [n]) (ws ++ G n) + 2 = todo G m ks (ws ++ [.th n]) := by
  unfold todo
  have := msum_dec (f := unmet G ks) (g := unmet G (ks ++ [n])) (d := (G n).length + 1) h1 h2 (by
    unfold unmet
    rw [if_neg h, if_pos (List.mem_append_right _ (List.mem_singleton.mpr rfl))]
    omega) fun i hi => by
    unfold unmet
    have : i ∈ ks ++ [n] ↔ i ∈ ks := by simp [hi]
    simp only [this]
  rw [this, List.length_append, List.length_append, List.length_singleton]
  omega
theorem perm_len {ks : List Nat} (nd : ks.Nodup) (h : ∀ n ∈ ks, 1 ≤ n ∧ n ≤ m) : ks.length ≤ m := by
  have : ∀ (m : Nat) (ks : List Nat), ks.Nodup → (∀ n ∈ ks, 1 ≤ n ∧ n ≤ m) → ks.length ≤ m := by
    intro m
    induction m with
    | zero =>
      intro ks _ h
      cases ks with
      | nil => exact Nat.le_refl _
      | cons a l => have := h a (List.mem_cons_self ..); omega
    | succ m ih =>
      intro ks nd h
      have h1 := ih (ks.erase (m + 1)) (nd.erase _) fun n hn => by
        have := h n (List.mem_of_mem_erase hn)
        have h3 : n ≠ m + 1 := fun e => by subst e; exact nd.not_mem_erase hn
        omega
      have : ks.length ≤ (ks.erase (m + 1)).length + 1 := by
        by_cases z : m + 1 ∈ ks
        · rw [List.length_erase_of_mem z]; omega
        · rw [List.erase_of_not_mem z]; omega
      omega
  exact this m ks nd h
end
end HM

set_option Elab.async false
set_option linter.all false
set_option maxRecDepth 100000
namespace K
open PySem L2 Evl EX DL HM
/-- all that stood stays -/
def Kpt (S S' : Sto) : Prop := ∀ b, S b ≠ none → S' b = S b
theorem Kpt.refl {S : Sto} : Kpt S S := fun _ _ => rfl
theorem Kpt.trans {S S' S2 : Sto} (h : Kpt S S') (g : Kpt S' S2) : Kpt S S2 := fun b hb => by rw [g b (by rw [h b hb]; exact hb), h b hb]
theorem Kpt.put {S S' : Sto} (h : Kpt S S') {p : Addr} (hp : S p = none) (o : O) : Kpt S (put S' p o) := fun b hb => by rw [put_ne (fun z => hb (by rw [z]; exact hp))]; exact h b hb
theorem Kpt.at {S S' : Sto} (h : Kpt S S') {a : Addr} {o : O} (e : S a = some o) : S' a = some o := by rw [h a (nn e)]; exact e
theorem Kpt.tr {CT CH : Addr} {en : Ed} {H : HA} {s : Hs} {S S' : Sto} (R : HRep CT CH en H s S) (h : Kpt S S') : HTr CT CH en H s S H s S' :=
  ⟨⟨⟨fun {l o} e => h.at (R.at_ e), R.inj⟩, fun b hb _ => h b hb, fun b hb => by rw [h b hb]; exact hb, fun l hl => .inl ⟨hl, rfl⟩, fun _ _ _ => rfl⟩, Nat.le_refl _⟩
end K

set_option Elab.async false
set_option linter.all false
set_option maxRecDepth 100000
/-! ### the sweep (no program in sight) -/
namespace HM
open PySem L2 DL
theorem Rch.mono {G G' : Nat → List Vl} {r r' : List Vl} (hr : ∀ n, Vl.th n ∈ r → Vl.th n ∈ r') (hg : ∀ k n, Vl.th n ∈ G k → Vl.th n ∈ G' k) {n : Nat} (h : Rch G r n) : Rch G' r' n := by
  induction h with
  | root h => exact .root (hr _ h)
  | step _ h ih => exact .step ih (hg _ _ h)
/-- what a thing's parts lead to -/
def ledP (s : Hs) (n : Nat) : List Vl := (s.parts n).map (·.2)
def Hs.ups (s : Hs) : List Nat → Hs
  | [] => s
  | n :: l => (s.up n).ups l
def Hs.downs (s : Hs) : List Nat → Hs
  | [] => s
  | n :: l => (s.down n).downs l
def Hs.gones (s : Hs) : List Nat → Hs
  | [] => s
  | n :: l => (s.gone n).gones l
def Hs.empts (s : Hs) : List Nat → Hs
  | [] => s
  | n :: l => ((s.emptied n (s.parts n)).bare n).empts l
def Hs.rowed (s : Hs) (r : Option (List Nat)) : Hs := { s with row := r }
inductive AskAll (ask : AskR) : Hs → List Nat → Hs → Prop where
  | nil {s : Hs} : AskAll ask s [] s
  | cons {s s1 s2 : Hs} {n : Nat} {l : List Nat} : n ∈ s.there → ask s n s1 → AskAll ask s1 l s2 → AskAll ask s (n :: l) s2
/-- what of some is not reached, rising -/
structure Lost (s : Hs) (base : Nat → Prop) (rs : List Vl) (lost : List Nat) : Prop where
  srt : lost.Pairwise (· < ·)
  mem : ∀ n, n ∈ lost ↔ base n ∧ ¬ Rch (ledP s) rs n
def others (s : Hs) (lost : List Nat) : List Nat := s.there.filter fun n => decide (n ∉ lost)
inductive Swept (ask : AskR) (rs : List Vl) : Hs → List Nat → Hs → Prop where
  | busy {s : Hs} : (0 < s.lasts ∨ s.row ≠ none) → Swept ask rs s [] s
  | mk {s s1 s2 : Hs} {lost0 lost : List Nat} {f : Nat} : s.lasts = 0 → s.row = none → Lost s (· ∈ s.there) rs lost0 → AskAll ask (s.ups lost0) lost0 s1 →
      Lost (s1.downs lost0) (· ∈ lost0) (rs ++ (others (s1.downs lost0) lost0).map Vl.th) lost → (∀ n ∈ lost0, n ∈ s1.there) → Work ask f ((((s1.downs lost0).rowed (some [])).gones lost).empts lost) s2 → Swept ask rs s lost s2
theorem lost_uniq {s : Hs} {base : Nat → Prop} {rs : List Vl} : ∀ {l m : List Nat}, Lost s base rs l → Lost s base rs m → l = m := by
  have key : ∀ {l m : List Nat}, l.Pairwise (· < ·) → m.Pairwise (· < ·) → (∀ j, j ∈ l ↔ j ∈ m) → l = m := by
    intro l
    induction l with
    | nil =>
      intro m _ _ h
      cases m with
      | nil => rfl
      | cons b m => exact absurd ((h b).mpr (List.mem_cons_self ..)) (by simp)
    | cons a l ih =>
      intro m h1 h2 h
      cases m with
      | nil => exact absurd ((h a).mp (List.mem_cons_self ..)) (by simp)
      | cons b m =>
        rw [List.pairwise_cons] at h1 h2
        have e : a = b := by
          rcases List.mem_cons.mp ((h a).mp (List.mem_cons_self ..)) with e | e
          · exact e
          · rcases List.mem_cons.mp ((h b).mpr (List.mem_cons_self ..)) with e2 | e2
            · exact e2.symm
            · have := h2.1 a e
              have := h1.1 b e2
              omega
        subst e
        rw [ih h1.2 h2.2 fun j => ?_]
        constructor
        · intro hj
          rcases List.mem_cons.mp ((h j).mp (List.mem_cons_of_mem _ hj)) with e | e
          · have := h1.1 j hj; omega
          · exact e
        · intro hj
          rcases List.mem_cons.mp ((h j).mpr (List.mem_cons_of_mem _ hj)) with e | e
          · have := h2.1 j hj; omega
          · exact e
  intro l m a b
  exact key a.srt b.srt fun j => (a.mem j).trans (b.mem j).symm
section
variable {s : Hs} {n : Nat}
/-- what ups and downs leave -/
theorem ups_rest : ∀ (l : List Nat) (s : Hs), (s.ups l).there = s.there ∧ (s.ups l).parts = s.parts ∧ (s.ups l).rest = s.rest ∧ (s.ups l).row = s.row ∧ (s.ups l).many = s.many ∧ (s.ups l).own = s.own ∧ (s.ups l).lasts = s.lasts ∧ (s.ups l).mine = s.mine ∧ (s.ups l).outer = s.outer ++ l ∧ (s.ups l).waits = s.waits
  | [], s => ⟨rfl, rfl, rfl, rfl, rfl, rfl, rfl, rfl, (List.append_nil _).symm, rfl⟩
  | n :: l, s => by
    obtain ⟨a, b, c, d, e, f, g, h, i, j⟩ := ups_rest l (s.up n)
    refine ⟨a, b, c, d, e, f, g, h, ?_, j⟩
    show ((s.up n).ups l).outer = _
    rw [i]
    show (s.outer ++ [n]) ++ l = _
    rw [List.append_assoc]
    rfl
theorem ups_ends : ∀ (l : List Nat) (s : Hs), (s.ups l).ends = s.ends
  | [], _ => rfl
  | n :: l, s => ups_ends l (s.up n)
theorem downs_rest : ∀ (l : List Nat) (s : Hs), (s.downs l).there = s.there ∧ (s.downs l).parts = s.parts ∧ (s.downs l).rest = s.rest ∧ (s.downs l).row = s.row ∧ (s.downs l).many = s.many ∧ (s.downs l).own = s.own ∧ (s.downs l).lasts = s.lasts ∧ (s.downs l).mine = s.mine ∧ (s.downs l).waits = s.waits
  | [], s => ⟨rfl, rfl, rfl, rfl, rfl, rfl, rfl, rfl, rfl⟩
  | n :: l, s => downs_rest l (s.down n)
theorem Wf.ups : ∀ {l : List Nat} {s : Hs}, Wf s → Wf (s.ups l)
  | [], _, w => w
  | n :: l, s, w => Wf.ups (l := l) (w.up n)
theorem Wf.downs : ∀ {l : List Nat} {s : Hs}, Wf s → Wf (s.downs l)
  | [], _, w => w
  | n :: l, s, w => Wf.downs (l := l) (w.down n)
theorem Good.ups : ∀ {l : List Nat} {s : Hs}, Good s → (∀ n ∈ l, n ≤ s.many) → Good (s.ups l)
  | [], _, g, _ => g
  | n :: l, s, g, h => Good.ups (l := l) (g.up (h n (List.mem_cons_self ..))) fun i hi => h i (List.mem_cons_of_mem _ hi)
theorem Good.downs : ∀ {l : List Nat} {s : Hs}, Good s → l.Nodup → (∀ n ∈ l, n ∈ s.outer) → Good (s.downs l)
  | [], _, g, _, _ => g
  | n :: l, s, g, nd, h => by
    rw [List.nodup_cons] at nd
    refine Good.downs (l := l) (g.down (h n (List.mem_cons_self ..))) nd.2 fun i hi => ?_
    exact (List.mem_erase_of_ne (fun e : i = n => nd.1 (e ▸ hi))).mpr (h i (List.mem_cons_of_mem _ hi))
theorem Wf.rowed0 {s : Hs} (w : Wf s) : Wf (s.rowed (some [])) := ⟨w.nd, w.tin, w.len, w.most, w.key, w.plen, w.pv, w.wnd, w.win, fun l hl => by cases hl; exact ⟨by simp, fun _ h => (by cases h)⟩, w.pz, w.az, w.kok, w.eb, w.an, w.bs⟩
theorem Good.rowed {s : Hs} (g : Good s) (r : Option (List Nat)) : Good (s.rowed r) := ⟨g.cnt, g.rnd, g.rt, g.rin, g.oin⟩
/-- many gone at once -/
structure Gns (s s' : Hs) (l : List Nat) : Prop where
  there : ∀ n, n ∈ s'.there ↔ n ∈ s.there ∧ n ∉ l
  rest : s'.rest = s.rest ++ l
  parts : s'.parts = s.parts
  row : s'.row = s.row
  many : s'.many = s.many
  own : s'.own = s.own
  outer : s'.outer = s.outer
  mine : s'.mine = s.mine
  lasts : s'.lasts = s.lasts
  W : Wf s'
  G : Good s'
theorem gones_ok : ∀ {l : List Nat} {s : Hs}, Wf s → Good s → l.Nodup → (∀ n ∈ l, n ∈ s.there) → Gns s (s.gones l) l
  | [], s, w, g, _, _ => ⟨fun n => by show n ∈ s.there ↔ _; simp, (List.append_nil _).symm, rfl, rfl, rfl, rfl, rfl, rfl, rfl, w, g⟩
  | n :: l, s, w, g, nd, h => by
    rw [List.nodup_cons] at nd
    have hn := h n (List.mem_cons_self ..)
    have K := gones_ok (l := l) (w.gone hn) (g.gone w hn) nd.2 fun i hi => List.mem_filter.mpr ⟨h i (List.mem_cons_of_mem _ hi), by simpa using fun e : i = n => nd.1 (e ▸ hi)⟩
    refine ⟨fun i => ?_, ?_, K.parts, K.row, K.many, K.own, K.outer, K.mine, K.lasts, K.W, K.G⟩
    · rw [show (s.gones (n :: l)) = (s.gone n).gones l from rfl, K.there i]
      show i ∈ s.there.filter (fun j => decide (j ≠ n)) ∧ _ ↔ _
      rw [List.mem_filter, decide_eq_true_iff, List.mem_cons]
      exact ⟨fun ⟨⟨a, b⟩, c⟩ => ⟨a, fun z => z.elim b c⟩, fun ⟨a, b⟩ => ⟨⟨a, fun z => b (.inl z)⟩, fun z => b (.inr z)⟩⟩
    · rw [show (s.gones (n :: l)) = (s.gone n).gones l from rfl, K.rest]
      show (s.rest ++ [n]) ++ l = _
      rw [List.append_assoc]
      rfl
/-- emptied one by one -/
structure Ems (s s' : Hs) (l : List Nat) : Prop where
  there : s'.there = s.there
  rest : ∀ n, n ∈ s'.rest ↔ n ∈ s.rest ∧ n ∉ l
  shr : ∀ n, (s'.parts n).Sublist (s.parts n)
  bare : ∀ n ∈ l, s'.parts n = []
  same : ∀ n, n ∉ l → s'.parts n = s.parts n
  row : s.row ≠ none → s'.row ≠ none
  many : s'.many = s.many
  own : s'.own = s.own
  outer : s'.outer = s.outer
  mine : s'.mine = s.mine
  lasts : s'.lasts = s.lasts
  W : Wf s'
  G : Good s'
  z : RowZ s → RowZ s'
theorem loosed_same (s : Hs) (v : Vl) : (s.loosed v).own = s.own ∧ (s.loosed v).outer = s.outer ∧ (s.loosed v).mine = s.mine ∧ (s.loosed v).lasts = s.lasts := by
  cases v with
  | no d => exact ⟨rfl, rfl, rfl, rfl⟩
  | th n => rw [loosed_th]; split <;> exact ⟨rfl, rfl, rfl, rfl⟩
theorem emptied_same {n : Nat} : ∀ (l : List (Key × Vl)) (s : Hs), (s.emptied n l).own = s.own ∧ (s.emptied n l).outer = s.outer ∧ (s.emptied n l).mine = s.mine ∧ (s.emptied n l).lasts = s.lasts
  | [], s => ⟨rfl, rfl, rfl, rfl⟩
  | kv :: l, s => by
    obtain ⟨a, b, c, d⟩ := emptied_same l (({ s with parts := fset s.parts n l } : Hs).loosed kv.2)
    obtain ⟨a', b', c', d'⟩ := loosed_same ({ s with parts := fset s.parts n l } : Hs) kv.2
    exact ⟨a.trans a', b.trans b', c.trans c', d.trans d'⟩
theorem emptied_parts {n : Nat} : ∀ (l : List (Key × Vl)) (s : Hs), s.parts n = l → (s.emptied n l).parts n = [] ∧ ∀ i, i ≠ n → (s.emptied n l).parts i = s.parts i
  | [], s, h => ⟨h, fun _ _ => rfl⟩
  | kv :: l, s, h => by
    obtain ⟨a, b⟩ := emptied_parts l (({ s with parts := fset s.parts n l } : Hs).loosed kv.2) (by rw [loosed_parts]; exact fset_same)
    refine ⟨a, fun i hi => (b i hi).trans ?_⟩
    rw [loosed_parts]
    exact fset_ne hi
theorem empts_ok : ∀ {l : List Nat} {s : Hs}, Wf s → Good s → l.Nodup → (∀ n ∈ l, n ∈ s.rest) → Ems s (s.empts l) l
  | [], s, w, g, _, _ => ⟨rfl, fun n => by show n ∈ s.rest ↔ _; simp, fun _ => List.Sublist.refl _, fun _ h => (by cases h), fun _ _ => rfl, fun h => h, rfl, rfl, rfl, rfl, rfl, w, g, fun h => h⟩
  | n :: l, s, w, g, nd, h => by
    rw [List.nodup_cons] at nd
    have hn := h n (List.mem_cons_self ..)
    obtain ⟨g1, p1, r1, t1⟩ := g.emptied (n := n) w hn rfl
    have w1 := (Wf.emptied (n := n) w rfl).bare n
    obtain ⟨p2, p3⟩ := emptied_parts (n := n) _ s rfl
    obtain ⟨e1, e2, e3, e4⟩ := emptied_same (n := n) (s.parts n) s
    have K := empts_ok (l := l) w1 (g1.bare p1) nd.2 fun i hi => List.mem_filter.mpr ⟨by rw [r1]; exact h i (List.mem_cons_of_mem _ hi), by simpa using fun e : i = n => nd.1 (e ▸ hi)⟩
    have es : s.empts (n :: l) = ((s.emptied n (s.parts n)).bare n).empts l := rfl
    refine ⟨?_, fun i => ?_, fun i => ?_, fun i hi => ?_, fun i hi => ?_, fun hr => ?_, ?_, ?_, ?_, ?_, ?_, ?_, ?_, fun hz => ?_⟩
    · rw [es, K.there]; exact t1
    · rw [es, K.rest]
      show i ∈ (s.emptied n (s.parts n)).rest.filter (fun j => decide (j ≠ n)) ∧ _ ↔ _
      rw [r1, List.mem_filter, decide_eq_true_iff, List.mem_cons]
      exact ⟨fun ⟨⟨a, b⟩, c⟩ => ⟨a, fun z => z.elim b c⟩, fun ⟨a, b⟩ => ⟨⟨a, fun z => b (.inl z)⟩, fun z => b (.inr z)⟩⟩
    · rw [es]
      refine (K.shr i).trans ?_
      show ((s.emptied n (s.parts n)).parts i).Sublist _
      by_cases z : i = n
      · subst z; rw [p2]; exact List.nil_sublist _
      · rw [p3 i z]; exact List.Sublist.refl _
    · rw [es]
      rcases List.mem_cons.mp hi with rfl | hi
      · rw [K.same i nd.1]; exact p2
      · exact K.bare i hi
    · rw [es, K.same i fun z => hi (List.mem_cons_of_mem _ z)]
      exact p3 i fun z => hi (by rw [z]; exact List.mem_cons_self ..)
    · rw [es]
      exact K.row fun z => hr ((emptied_row _ _).mp z)
    · rw [es, K.many]; exact emptied_many _ _
    · rw [es, K.own]; exact e1
    · rw [es, K.outer]; exact e2
    · rw [es, K.mine]; exact e3
    · rw [es, K.lasts]; exact e4
    · rw [es]; exact K.W
    · rw [es]; exact K.G
    · rw [es]; exact K.z (RowZ.emptied hz g w hn rfl)
end
/-- what is there leads to what is there alone; what is gone has no parts; owns hold nothing -/
structure Cl (s : Hs) : Prop where
  cl : ∀ i ∈ s.there, ∀ kv ∈ s.parts i, ∀ j, kv.2 = .th j → j ∈ s.there
  gp : ∀ n, n ∉ s.there → n ∉ s.rest → s.parts n = []
  ow : ∀ n, 1 ≤ n → n ≤ s.many → NoTh (s.own n)
theorem le_sum_mem : ∀ {l : List Nat} {x : Nat}, x ∈ l → x ≤ l.sum
  | a :: l, x, h => by
    rw [List.sum_cons]
    rcases List.mem_cons.mp h with rfl | h
    · exact Nat.le_add_right _ _
    · have := le_sum_mem h; omega
/-- what is held by what is there is counted -/
theorem cnt_held {s : Hs} (g : Good s) {i j : Nat} {kv : Key × Vl} (hi : i ∈ s.there) (hk : kv ∈ s.parts i) (e : kv.2 = .th j) : s.cnt j ≠ 0 := by
  have h1 := g.eq j
  unfold cntF at h1
  have h2 : 0 < pcnt (s.parts i) j := by
    unfold pcnt
    rw [List.countP_pos_iff]
    exact ⟨kv, hk, by rw [e]; simp [Vl.is]⟩
  have h3 : pcnt (s.parts i) j ≤ psum s.parts s.there j := by
    unfold psum
    exact le_sum_mem (List.mem_map.mpr ⟨i, hi, rfl⟩)
  omega
theorem Cl.congr {s s' : Hs} (c : Cl s) (h1 : s'.there = s.there) (h2 : s'.parts = s.parts) (h3 : ∀ n, n ∈ s.rest → n ∈ s'.rest) (h4 : s'.own = s.own) (h5 : s'.many = s.many) : Cl s' :=
  ⟨by rw [h1, h2]; exact c.cl, fun n a b => by rw [h2]; exact c.gp n (by rw [← h1]; exact a) fun z => b (h3 n z), by rw [h4, h5]; exact c.ow⟩
theorem Cl.loosed {s : Hs} (c : Cl s) (v : Vl) : Cl (s.loosed v) :=
  c.congr (loosed_there s v) (loosed_parts s v) (fun n h => by rw [loosed_rest]; exact h) (loosed_same s v).1 (loosed_many s v)
/-- what has no holds is gone -/
theorem Cl.gone {s : Hs} {n : Nat} (c : Cl s) (g : Good s) (h : s.cnt n = 0) : Cl (s.gone n) := by
  refine ⟨fun i hi kv hk j e => ?_, fun i h1 h2 => ?_, c.ow⟩
  · have hi' : i ∈ s.there := (List.mem_filter.mp hi).1
    have hk : kv ∈ s.parts i := hk
    have hj := c.cl i hi' kv hk j e
    refine List.mem_filter.mpr ⟨hj, ?_⟩
    rw [decide_eq_true_iff]
    rintro rfl
    exact cnt_held g hi' hk e h
  · have h2 : i ∉ s.rest ++ [n] := h2
    rw [List.mem_append, List.mem_singleton] at h2
    refine c.gp i (fun z => h1 (List.mem_filter.mpr ⟨z, by simpa using fun e => h2 (.inr e)⟩)) fun z => h2 (.inl z)
theorem Cl.bared {s : Hs} {n : Nat} (c : Cl s) (hn : n ∉ s.there) : Cl ((s.emptied n (s.parts n)).bare n) := by
  obtain ⟨p1, p2⟩ := emptied_parts (n := n) _ s rfl
  obtain ⟨e1, e2, e3, e4⟩ := emptied_same (n := n) (s.parts n) s
  have et := emptied_there (n := n) (s.parts n) s
  refine ⟨fun i hi kv hk j e => ?_, fun i h1 h2 => ?_, fun i h1 h2 => ?_⟩
  · have hi : i ∈ (s.emptied n (s.parts n)).there := hi
    rw [et] at hi
    have hk : kv ∈ (s.emptied n (s.parts n)).parts i := hk
    show j ∈ (s.emptied n (s.parts n)).there
    rw [et]
    by_cases z : i = n
    · exact absurd (z ▸ hi) hn
    · rw [p2 i z] at hk; exact c.cl i hi kv hk j e
  · show (s.emptied n (s.parts n)).parts i = []
    by_cases z : i = n
    · subst z; exact p1
    · rw [p2 i z]
      refine c.gp i (fun y => h1 (by show i ∈ (s.emptied n (s.parts n)).there; rw [et]; exact y)) fun y => h2 ?_
      have er : ∀ (l : List (Key × Vl)) (s : Hs), (s.emptied n l).rest = s.rest := by
        intro l
        induction l with
        | nil => intro s; rfl
        | cons kv l ih =>
          intro s
          show ((({ s with parts := fset s.parts n l } : Hs).loosed kv.2).emptied n l).rest = _
          rw [ih, loosed_rest]
      exact List.mem_filter.mpr ⟨by rw [er]; exact y, by simpa using z⟩
  · have h2 : i ≤ (s.emptied n (s.parts n)).many := h2
    rw [emptied_many] at h2
    show NoTh ((s.emptied n (s.parts n)).own i)
    rw [e1]
    exact c.ow i h1 h2
/-- what is asked of lasts, too -/
structure AskCl (ask : AskR) : Prop where
  good : AskGood ask
  cl : ∀ {s n s'}, ask s n s' → Wf s → Good s → n ∈ s.there → Cl s → Cl s'
  rest : ∀ {s n s'}, ask s n s' → Wf s → Good s → n ∈ s.there → s'.rest = s.rest
  lasts : ∀ {s n s'}, ask s n s' → s'.lasts = s.lasts
  bal : ∀ {s n s'}, ask s n s' → ∀ i, s'.outer.count i + s.ends.count i = s.outer.count i + s'.ends.count i
theorem emptied_rest {n : Nat} : ∀ (l : List (Key × Vl)) (s : Hs), (s.emptied n l).rest = s.rest
  | [], s => rfl
  | kv :: l, s => by
    show ((({ s with parts := fset s.parts n l } : Hs).loosed kv.2).emptied n l).rest = _
    rw [emptied_rest l, loosed_rest]
section
variable {ask : AskR} (K : AskCl ask) {s s' : Hs} {n : Nat}
include K
theorem Turn.cl (t : Turn ask s n s') (w : Wf s) (g : Good s) (h : ∀ l, s.row = some l → n ∉ l) (c : Cl s) : Cl s' ∧ s'.rest = s.rest ∧ s'.lasts = s.lasts := by
  cases t with
  | pass _ => exact ⟨c.congr rfl rfl (fun _ h => h) rfl rfl, rfl, rfl⟩
  | stay h1 h2 h3 =>
    rename_i s1
    have hn : n ∈ s.there := Classical.not_not.mp fun z => h1 (.inr z)
    have hb := w.tin n hn
    have g1 : Good ((s.unwait n).up n) := (Good.unwait g).up hb.2
    have w1 := (w.unwait h).up n
    have c1 : Cl ((s.unwait n).up n) := c.congr rfl rfl (fun _ h => h) rfl rfl
    have c2 := K.cl h2 w1 g1 hn c1
    exact ⟨c2.congr rfl rfl (fun _ h => h) rfl rfl, (K.rest h2 w1 g1 hn : s1.rest = _), (K.lasts h2 : s1.lasts = _)⟩
  | go h1 h2 h3 =>
    rename_i s1
    have hn : n ∈ s.there := Classical.not_not.mp fun z => h1 (.inr z)
    have hb := w.tin n hn
    have g1 : Good ((s.unwait n).up n) := (Good.unwait g).up hb.2
    have w1 := (w.unwait h).up n
    have c1 : Cl ((s.unwait n).up n) := c.congr rfl rfl (fun _ h => h) rfl rfl
    have c2 := K.cl h2 w1 g1 hn c1
    have g2 := (K.good.good h2 w1 g1 hn).down (K.good.out h2 (List.mem_append_right _ (List.mem_singleton.mpr rfl)))
    have c3 : Cl (s1.down n) := c2.congr rfl rfl (fun _ h => h) rfl rfl
    have c4 := c3.gone g2 h3
    have hng : n ∉ ((s1.down n).gone n).there := fun z => of_decide_eq_true (List.mem_filter.mp z).2 rfl
    have hrs : s1.rest = ((s.unwait n).up n).rest := K.rest h2 w1 g1 hn
    have hrs : s1.rest = s.rest := hrs
    have hnr : n ∉ s.rest := fun z => g.rt n z hn
    refine ⟨c4.bared hng, ?_, ?_⟩
    · show ((((s1.down n).gone n).emptied n (s1.parts n)).rest.filter fun i => decide (i ≠ n)) = s.rest
      rw [emptied_rest]
      show ((s1.rest ++ [n]).filter fun i => decide (i ≠ n)) = s.rest
      rw [hrs, List.filter_append, filter_no hnr]
      simp
    · show ((((s1.down n).gone n).emptied n (s1.parts n))).lasts = s.lasts
      rw [(emptied_same (n := n) (s1.parts n) ((s1.down n).gone n)).2.2.2]
      have hl : s1.lasts = ((s.unwait n).up n).lasts := K.lasts h2
      exact hl
theorem Work.cl {f : Nat} (t : Work ask f s s') (w : Wf s) (g : Good s) (c : Cl s) : Cl s' ∧ s'.rest = s.rest ∧ s'.lasts = s.lasts ∧ s'.row = none := by
  induction t with
  | done h => exact ⟨c.congr rfl rfl (fun _ h => h) rfl rfl, rfl, rfl, rfl⟩
  | step h1 h2 h3 ih =>
    rename_i f n r s s1 s2
    obtain ⟨w1, w2, _⟩ := w.rowTail h1
    have g1 : Good { s with row := some r } := ⟨g.cnt, g.rnd, g.rt, g.rin, g.oin⟩
    have hr : ∀ l, ({ s with row := some r } : Hs).row = some l → n ∉ l := fun l hl => by cases hl; exact w2
    obtain ⟨c1, r1, l1⟩ := h2.cl K w1 g1 hr (c.congr rfl rfl (fun _ h => h) rfl rfl)
    obtain ⟨c2, r2, l2, e⟩ := ih (h2.wf K.good.ok w1 hr).1 (h2.good K.good w1 g1 hr) c1
    exact ⟨c2, r2.trans r1, l2.trans l1, e⟩
theorem Loose.cl {v : Vl} (t : Loose ask s v s') (w : Wf s) (g : GoodP s v) (c : Cl s) : Cl s' ∧ s'.rest = s.rest ∧ s'.lasts = s.lasts := by
  have gl := g.loosed
  cases t with
  | no => exact ⟨c, rfl, rfl⟩
  | kept h => exact ⟨c.congr rfl rfl (fun _ h => h) rfl rfl, rfl, rfl⟩
  | wait h _ => exact ⟨c.congr rfl rfl (fun _ h => h) rfl rfl, rfl, rfl⟩
  | work h h1 h2 =>
    rename_i n f
    rw [loosed_th, if_pos h] at gl
    have w1 := (w.dec n).enq h
    obtain ⟨a, b, d, _⟩ := h2.cl K ⟨w1.nd, w1.tin, w1.len, w1.most, w1.key, w1.plen, w1.pv, w1.wnd, w1.win, fun l hl => by
      cases hl
      exact ⟨by simp, fun i hi => by rw [List.mem_singleton.mp hi]; exact List.mem_append_right _ (List.mem_singleton.mpr rfl)⟩, w1.pz, w1.az, w1.kok, w1.eb, w1.an, w1.bs⟩ ⟨gl.cnt, gl.rnd, gl.rt, gl.rin, gl.oin⟩ (c.congr rfl rfl (fun _ h => h) rfl rfl)
    exact ⟨a, b, d⟩
theorem AskAll.keep {l : List Nat} (t : AskAll ask s l s') (w : Wf s) (g : Good s) (c : Cl s) : Wf s' ∧ Good s' ∧ Cl s' ∧ s'.rest = s.rest ∧ s'.lasts = s.lasts ∧ s'.row = s.row ∧ s.many ≤ s'.many ∧ ∀ i, s'.outer.count i + s.ends.count i = s.outer.count i + s'.ends.count i := by
  induction t with
  | nil => exact ⟨w, g, c, rfl, rfl, rfl, Nat.le_refl _, fun _ => rfl⟩
  | cons h1 h2 _ ih =>
    obtain ⟨a, b, d, e, f, i, j, k⟩ := ih (K.good.ok.wf h2 w h1) (K.good.good h2 w g h1) (K.cl h2 w g h1 c)
    exact ⟨a, b, d, e.trans (K.rest h2 w g h1), f.trans (K.lasts h2), i.trans (K.good.ok.row h2), Nat.le_trans (K.good.ok.many h2) j, fun i => by have := k i; have := K.bal h2 i; omega⟩
/-- behind a sweep, at rest -/
theorem Swept.keep {rs : List Vl} {lost : List Nat} (t : Swept ask rs s lost s') (w : Wf s) (g : Good s) (c : Cl s) (hr : s.rest = []) (h0 : s.row = none) (eb : ∀ i, s.ends.count i ≤ s.outer.count i) : Wf s' ∧ Good s' ∧ Cl s' ∧ s'.rest = [] ∧ s'.lasts = s.lasts ∧ s'.row = none ∧ s.many ≤ s'.many := by
  cases t with
  | busy _ => exact ⟨w, g, c, hr, rfl, h0, Nat.le_refl _⟩
  | mk l0 r0 L0 A L1 ht W1 =>
    rename_i s1 lost0 f
    obtain ⟨u1, u2, u3, u4, u5, u6, u7, u8, u9, u10⟩ := ups_rest lost0 s
    have hin : ∀ n ∈ lost0, n ∈ s.there := fun n hn => ((L0.mem n).mp hn).1
    have nd0 : lost0.Nodup := L0.srt.imp fun h e => by omega
    have nd1 : lost.Nodup := L1.srt.imp fun h e => by omega
    have gu : Good (s.ups lost0) := g.ups fun n hn => (w.tin n (hin n hn)).2
    have cu : Cl (s.ups lost0) := c.congr u1 u2 (fun n h => by rw [u3]; exact h) u6 u5
    obtain ⟨w1, g1, c1, e1, e2, e3, e4, e5⟩ := A.keep K w.ups gu cu
    obtain ⟨d1, d2, d3, d4, d5, d6, d7, d8, d9⟩ := downs_rest lost0 s1
    have wd := (w1.downs (l := lost0))
    have gd : Good (s1.downs lost0) := g1.downs nd0 fun n hn => List.count_pos_iff.mp (by
      have h1 := e5 n
      rw [u9, List.count_append, ups_ends] at h1
      have h2 := eb n
      have h3 := List.count_pos_iff.mpr hn
      omega)
    have cd : Cl (s1.downs lost0) := c1.congr d1 d2 (fun n h => by rw [d3]; exact h) d6 d5
    have hl1 : ∀ n ∈ lost, n ∈ lost0 := fun n hn => ((L1.mem n).mp hn).1
    have hrest1 : (s1.downs lost0).rest = [] := by rw [d3, e1, u3]; exact hr
    have Gn := gones_ok (l := lost) wd.rowed0 (gd.rowed _) nd1 fun n hn => by
      show n ∈ (s1.downs lost0).there
      rw [d1]; exact ht n (hl1 n hn)
    have cg : Cl (((s1.downs lost0).rowed (some [])).gones lost) := by
      refine ⟨fun i hi kv hk j e => ?_, fun i h1 h2 => ?_, by rw [Gn.own, Gn.many]; exact cd.ow⟩
      · obtain ⟨a, b⟩ := (Gn.there i).mp hi
        have a : i ∈ (s1.downs lost0).there := a
        rw [Gn.parts] at hk
        have hk : kv ∈ (s1.downs lost0).parts i := hk
        have hj := cd.cl i a kv hk j e
        refine (Gn.there j).mpr ⟨hj, fun z => ?_⟩
        have hz := (L1.mem j).mp z
        apply hz.2
        have hstep : Vl.th j ∈ ledP (s1.downs lost0) i := List.mem_map.mpr ⟨kv, hk, e⟩
        refine .step ?_ hstep
        by_cases y : i ∈ lost0
        · exact Classical.not_not.mp fun q => b ((L1.mem i).mpr ⟨y, q⟩)
        · exact .root (List.mem_append_right _ (List.mem_map.mpr ⟨i, List.mem_filter.mpr ⟨a, by simpa using y⟩, rfl⟩))
      · rw [Gn.rest, List.mem_append] at h2
        rw [Gn.parts]
        refine cd.gp i (fun z => h1 ((Gn.there i).mpr ⟨z, fun y => h2 (.inr y)⟩)) fun z => h2 (.inl z)
    have Em := empts_ok (l := lost) Gn.W Gn.G nd1 fun n hn => by rw [Gn.rest]; exact List.mem_append_right _ hn
    have ce : Cl ((((s1.downs lost0).rowed (some [])).gones lost).empts lost) := by
      refine ⟨fun i hi kv hk j e => ?_, fun i h1 h2 => ?_, by rw [Em.own, Em.many]; exact cg.ow⟩
      · rw [Em.there] at hi ⊢
        exact cg.cl i hi kv ((Em.shr i).mem hk) j e
      · by_cases z : i ∈ lost
        · exact Em.bare i z
        · rw [Em.same i z]
          exact cg.gp i (by rw [← Em.there]; exact h1) fun y => h2 ((Em.rest i).mpr ⟨y, z⟩)
    have hre : ((((s1.downs lost0).rowed (some [])).gones lost).empts lost).rest = [] := by
      refine List.eq_nil_iff_forall_not_mem.mpr fun n hn => ?_
      obtain ⟨a, b⟩ := (Em.rest n).mp hn
      rw [Gn.rest] at a
      rcases List.mem_append.mp a with a | a
      · have a : n ∈ (s1.downs lost0).rest := a
        rw [hrest1] at a; cases a
      · exact b a
    obtain ⟨c2, r2, l2, e⟩ := W1.cl K Em.W Em.G ce
    refine ⟨(W1.wf K.good.ok Em.W).1, W1.good K.good Em.W Em.G, c2, r2.trans hre, ?_, e, ?_⟩
    · rw [l2, Em.lasts, Gn.lasts]
      show (s1.downs lost0).lasts = _
      rw [d7, e2, u7]
    · have := (W1.wf K.good.ok Em.W).2
      rw [Em.many, Gn.many] at this
      have h5 : (s1.downs lost0).many ≤ s'.many := this
      rw [d5] at h5
      rw [u5] at e4
      omega
end
/-! without an ender -/
open Classical in
theorem lost_ex (s : Hs) (base : List Nat) (rs : List Vl) (nd : base.Nodup) : ∃ lost, Lost s (· ∈ base) rs lost := by
  refine ⟨(base.filter fun n => decide (¬ Rch (ledP s) rs n)).mergeSort, ?_, fun n => ?_⟩
  · have h1 := List.pairwise_mergeSort (le := fun a b : Nat => decide (a ≤ b)) (fun a b c h1 h2 => by simp at *; omega) (fun a b => by simp; omega) (base.filter fun n => decide (¬ Rch (ledP s) rs n))
    have h2 : ((base.filter fun n => decide (¬ Rch (ledP s) rs n)).mergeSort fun a b => decide (a ≤ b)).Nodup := (List.mergeSort_perm _ _).nodup_iff.mpr (nd.sublist List.filter_sublist)
    exact (h1.and h2).imp fun ⟨a, b⟩ => by simp at a; omega
  · rw [(List.mergeSort_perm _ _).mem_iff, List.mem_filter, decide_eq_true_iff]
theorem downs_outer : ∀ {l : List Nat} {s : Hs}, (∀ i, l.count i ≤ s.outer.count i) → (∀ i, (s.downs l).outer.count i + l.count i = s.outer.count i) ∧ (s.downs l).outer.length + l.length = s.outer.length
  | [], s, _ => ⟨fun _ => rfl, rfl⟩
  | n :: l, s, h => by
    have hn : n ∈ s.outer := List.count_pos_iff.mp (by have := h n; rw [List.count_cons_self] at this; omega)
    have hs : (s.downs (n :: l)) = (s.down n).downs l := rfl
    have hp : ∀ i, (s.down n).outer.count i + (if i = n then 1 else 0) = s.outer.count i := fun i => by
      show (s.outer.erase n).count i + _ = _
      by_cases z : i = n
      · subst z
        have := List.count_pos_iff.mpr hn
        rw [List.count_erase_self, if_pos rfl]
        omega
      · rw [List.count_erase_of_ne z, if_neg z]; rfl
    have hc : ∀ i, (n :: l).count i = l.count i + (if i = n then 1 else 0) := fun i => by
      rw [List.count_cons]
      congr 1
      by_cases z : i = n
      · subst z; simp
      · rw [if_neg z, if_neg (by simpa using Ne.symm z)]
    obtain ⟨a, b⟩ := downs_outer (l := l) (s := s.down n) fun i => by have := h i; have := hp i; have := hc i; omega
    refine ⟨fun i => ?_, ?_⟩
    · have := a i; have := hp i; have := hc i
      rw [hs]
      omega
    · rw [hs]
      have : (s.down n).outer.length + 1 = s.outer.length := by
        show (s.outer.erase n).length + 1 = _
        have := List.length_pos_of_mem hn
        rw [List.length_erase_of_mem hn]
        omega
      rw [List.length_cons]
      omega
theorem gones_left : ∀ (l : List Nat) (s : Hs), (s.gones l).asked = s.asked ∧ (s.gones l).ends = s.ends ∧ (s.gones l).form = s.form
  | [], _ => ⟨rfl, rfl, rfl⟩
  | n :: l, s => gones_left l (s.gone n)
theorem downs_ends : ∀ (l : List Nat) (s : Hs), (s.downs l).ends = s.ends
  | [], _ => rfl
  | n :: l, s => downs_ends l (s.down n)
theorem empts_ends : ∀ (l : List Nat) (s : Hs), (s.empts l).ends = s.ends
  | [], _ => rfl
  | n :: l, s => by
    show (((s.emptied n (s.parts n)).bare n).empts l).ends = _
    rw [empts_ends l]
    have : ∀ (l : List (Key × Vl)) (s : Hs), (s.emptied n l).ends = s.ends := by
      intro l
      induction l with
      | nil => intro s; rfl
      | cons kv l ih =>
        intro s
        show ((({ s with parts := fset s.parts n l } : Hs).loosed kv.2).emptied n l).ends = _
        rw [ih]
        cases kv.2 with
        | no d => rfl
        | th j => rw [loosed_th]; split <;> rfl
    exact this _ _
/-- what a sweep without an ender leaves as it is -/
structure Sk (s s' : Hs) : Prop where
  ends : s'.ends = s.ends
  mine : s'.mine = s.mine
  out : ∀ j, s'.outer.count j = s.outer.count j
  len : s'.outer.length = s.outer.length
  many : s'.many = s.many
  shr : ∀ n, (s'.parts n).Sublist (s.parts n)
  there : ∀ n, n ∈ s'.there → n ∈ s.there
end HM

set_option Elab.async false
set_option linter.all false
set_option maxRecDepth 100000
namespace K
open PySem L2 Evl EX DL HM
abbrev s_Held___init__ : Stmt := inClass (top 3) 0
abbrev N_Held___init__ : List Str := ["self", "values"]
theorem sc_Held___init__ : FnScope N_Held___init__ ["self", "values"] (defScope s_Held___init__) := ⟨rfl, rfl, rfl, by decide +kernel, rfl, by decide +kernel, by decide +kernel⟩
abbrev s_Held_held : Stmt := inClass (top 3) 1
abbrev N_Held_held : List Str := ["self"]
theorem sc_Held_held : FnScope N_Held_held ["self"] (defScope s_Held_held) := ⟨rfl, rfl, rfl, by decide +kernel, rfl, by decide +kernel, by decide +kernel⟩
abbrev s_led_to : Stmt := top 7
abbrev N_led_to : List Str := ["thing", "values", "key"]
theorem sc_led_to : FnScope N_led_to ["thing"] (defScope s_led_to) := ⟨rfl, rfl, rfl, by decide +kernel, rfl, by decide +kernel, by decide +kernel⟩
abbrev s_reached : Stmt := top 8
abbrev N_reached : List Str := ["hall", "roots", "met", "waiting", "value"]
theorem sc_reached : FnScope N_reached ["hall", "roots"] (defScope s_reached) := ⟨rfl, rfl, rfl, by decide +kernel, rfl, by decide +kernel, by decide +kernel⟩
structure TxW (K : PySem.W.Frag) (mg : Str → Option Value) (CT CH CD : Addr) : Prop extends Txt K mg CT CH where
  Held : GlD K mg "Held" (.ref CD)
  Held_ : ClsD K CD ["has"]
  HeldI : IsiC K CD
/-- what holds values -/
def heFs (has : D) : List (Str × D) := [("has", has)]
theorem he_has {x : D} : (heFs x).lookup ("has" : Str) = some x := rfl
/-- what a thing's own leads to: nothing, or a holder's values -/
def OwnH (CD : Addr) (H : HA) (S : Sto) (d : D) : Option (List Vl) → Prop
  | none => NoTh d
  | some vs => ∃ h dx l, d = .ref h ∧ S h = some (.ins CD dx (heFs (.ref l))) ∧ S l = some (.lst (vs.map (vD H)))
theorem OwnH.kpt {CD : Addr} {H : HA} {S S' : Sto} {d : D} {o : Option (List Vl)} (h : OwnH CD H S d o) (k : Kpt S S') : OwnH CD H S' d o := by
  cases o with
  | none => exact h
  | some vs =>
    obtain ⟨a, dx, l, e1, e2, e3⟩ := h
    exact ⟨a, dx, l, e1, k.at e2, k.at e3⟩
theorem gval_nodup {β : Type} {kv : Key × β} : ∀ {l : List (Key × β)}, (l.map (·.1)).Nodup → kv ∈ l → gval l kv.1 = some kv.2
  | [], _, h => by cases h
  | a :: l, nd, h => by
    rw [List.map_cons, List.nodup_cons] at nd
    unfold gval
    rw [List.find?_cons]
    rcases List.mem_cons.mp h with rfl | h
    · simp
    · have : a.1 ≠ kv.1 := fun e => nd.1 (by rw [e]; exact List.mem_map.mpr ⟨kv, h, rfl⟩)
      simp only [this, decide_false]
      exact gval_nodup nd.2 h
section
variable {P : Program} {w : World} {K : PySem.W.Frag} {mg : Str → Option Value} {base : Heap} {CT CH CD : Addr} {en : Ed}
local macro_rules | `(tactic| walk_at "dl") => `(tactic| try simp only [↓x_lcN, ↓x_lcSN, ↓x_catM, ↓x_neV, ↓x_sortSet, ↓x_sortDLN, ↓x_lrg, ↓x_neg, ↓x_lcS, ↓x_lockE, ↓x_eqA, ↓x_dictD, ↓x_disp, ↓x_pNil, ↓x_pCons, ↓x_forS, ↓x_diSL, ↓x_diKeys, ↓x_lock, ↓x_dictP, ↓x_fld, ↓x_fldS, ↓x_fldA, ↓x_meth, ↓x_make, ↓x_dget, ↓x_din, ↓x_dget1, ↓x_dget2, ↓x_dpop, ↓x_dput, ↓x_listD, ↓x_sortDI, ↓x_lenD, ↓x_isiC, x_icS, x_icI, x_icB, x_icN, x_ioS, x_ioI, x_ioB, x_ioN, ↓x_gSub, ↓x_sortDL, ↓x_eqO, ↓x_ninA, x_catN, x_isBB, x_isBN, x_isBI, x_isBS, x_isBR, ↓x_seq, ↓x_nx, ↓x_pass, ↓x_brk, ↓x_cnt, ↓x_drop, ↓x_ret, ↓x_retN, ↓x_ifS, ↓x_set, ↓x_asg, ↓x_gN, ↓x_gT, ↓x_gsC, ↓x_gsN, ↓x_var, x_rdv, ↓x_c, ↓x_op, ↓x_test, x_tst, ↓x_and, ↓x_or, ↓x_not, ↓x_andV, ↓x_orV, ↓x_notV, x_tstV, ↓x_ifE, x_true, x_false, ↓x_nil, ↓x_cons, ↓x_tup, ↓x_lst, ↓x_new, ↓x_newD, ↓x_call, ↓x_cb, x_oI, x_oIc, x_oS, x_addS, x_isN, x_notN, x_eqI, x_eqS, x_eqIS, x_eqSI, x_eqNS, x_neI, x_neS, x_neB, x_eqB, x_few, x_need, ↓x_ix, x_lenS, x_ixL0, x_ixT0, x_ixT1, x_ixT2, x_ixT3, x_ixT4, x_lenL, x_lenT, x_lenC, x_listL, x_listT, x_tupL, x_tupT, x_strI, x_strS, x_int1, x_intB, x_I1, x_I2, x_cat, x_catT, ↓x_split, ↓x_for, ↓x_cut, ↓x_lc, ↓x_whl, ↓x_diL, ↓x_diT, ↓x_diS, x_itL, x_itC, x_itT, x_itS, ↓x_diR1, ↓x_diR2, ↓x_diE, x_enmL, x_enmC, ↓x_gcN, ↓x_gcT, ↓x_yes, ↓x_ml, ↓x_ms, x_strq, x_ss, x_ssc, x_ssi, ↓x_join, ↓x_aug, x_st2I, ↓x_sl, ↓x_noP, ↓x_part, x_intq, x_slL, x_slC, x_slS, ↓x_in, x_inT, x_inL, x_ninT, x_ninL, x_inN, x_inSS, x_inSI, x_inIS, x_inII, ↓x_sg, x_sgS, x_nsgS, ↓x_eqD, ↓x_inDD, x_mulS, ↓x_isi, x_isiS, x_isiI, x_isiB, x_isiN, x_isiL, x_isiT, ↓x_isTT, x_itI, x_itStr, x_itN, x_itB, x_itLst, x_itTup, ↓x_any, ↓x_all, ↓x_sum, ↓x_srtI, ↓x_srtS, ↓x_intS, ↓x_lenRf, ↓x_tupRf, ↓x_frz', x_flS, x_flI, x_flN, x_flB, x_cs_bool, x_isB_NoneType_bool, x_isB_bool_bool, x_isB_int_bool, x_isB_str_bool, x_isB_list_bool, x_isB_tuple_bool, x_isB_dict_bool, x_cs_int, x_isB_NoneType_int, x_isB_bool_int, x_isB_int_int, x_isB_str_int, x_isB_list_int, x_isB_tuple_int, x_isB_dict_int, x_cs_str, x_isB_NoneType_str, x_isB_bool_str, x_isB_int_str, x_isB_str_str, x_isB_list_str, x_isB_tuple_str, x_isB_dict_str, x_cs_list, x_isB_NoneType_list, x_isB_bool_list, x_isB_int_list, x_isB_str_list, x_isB_list_list, x_isB_tuple_list, x_isB_dict_list, x_cs_tuple, x_isB_NoneType_tuple, x_isB_bool_tuple, x_isB_int_tuple, x_isB_str_tuple, x_isB_list_tuple, x_isB_tuple_tuple, x_isB_dict_tuple, x_cs_dict, x_isB_NoneType_dict, x_isB_bool_dict, x_isB_int_dict, x_isB_str_dict, x_isB_list_dict, x_isB_tuple_dict, x_isB_dict_dict, List.all_cons, List.all_nil, Bool.and_self, Bool.or_false, Bool.or_true, Bool.false_or, Bool.true_or, wipeD, setD, DL.isNon, List.set_cons_zero, List.set_cons_succ, List.getElem?_cons_zero, List.getElem?_cons_succ, List.length_cons, List.length_nil, Nat.zero_add, List.cons_append, List.nil_append, decide_true, decide_false, Bool.not_true, Bool.not_false, true_and, and_true, startD, List.map_cons, List.map_nil, Nat.reduceSub, Nat.reduceLeDiff, Nat.zero_le, Int.reduceLT, Int.reduceLE, and_self, Nat.reduceAdd, List.replicate])
def dHeInit (CD : Addr) : SpD := fun ds S k _ => ∃ (a dx : Addr) (vs : List D), ds = [.ref a, .list vs] ∧ vs.length ≤ 90000 ∧ S a = some (.ins CD dx []) ∧ ∀ l, S l = none → k .non (put (put S l (.lst vs)) a (.ins CD dx (heFs (.ref l))))
theorem ok_heinit {fa : Addr} {fd : FuncData} (F : Fun K "__init__" "Held.__init__" s_Held___init__ fa fd) (T : TxW K mg CT CH CD) : FnOk P w K mg base CX0 1 fa fd ["self", "values"] (lSp K (dHeInit CD)) := by
  refine dok F sc_Held___init__ (fun ds S q qx ⟨a, dx, vs, h, _⟩ => by rw [h]; rfl) ⟨_, fun cdv A outer s H E hr => dss_one (ds_fld T.Held_ (by decide +kernel) (de_var 0) (de_callTy (clList (K := K)) si_listN (by rfl) T.list (by decide +kernel) (da_cons (de_var 1) da_nil))), fun ds S q qx ⟨a, dx, vs, hd, hl, ha, h⟩ => ?_⟩
  subst hd
  walk_at "dl"
  refine ⟨vs, rfl, fun l hl' => ?_⟩
  walk_at "dl"
  refine fldsOf (by rw [put_ne (sto_ne ha hl')]; exact ha) (Nat.le_of_ble_eq_true rfl) ?_
  exact h l hl'
def dHeld (CD : Addr) : SpD := fun ds S k _ => ∃ (a dx l : Addr) (vs : List D), ds = [.ref a] ∧ S a = some (.ins CD dx (heFs (.ref l))) ∧ S l = some (.lst vs) ∧ k (.list vs) S
theorem ok_held {fa : Addr} {fd : FuncData} (F : Fun K "held" "Held.held" s_Held_held fa fd) (T : TxW K mg CT CH CD) : FnOk P w K mg base CX0 1 fa fd ["self"] (lSp K (dHeld CD)) := by
  refine dok F sc_Held_held (fun ds S q qx ⟨a, dx, l, vs, h, _⟩ => by rw [h]; rfl) ⟨_, fun cdv A outer s H E hr => dss_one (ds_ret (de_callTy (clList (K := K)) si_list (by rfl) T.list (by decide +kernel) (da_cons (de_fld T.Held_ (by decide +kernel) (de_var 0)) da_nil))), fun ds S q qx ⟨a, dx, l, vs, hd, ha, hl, h⟩ => ?_⟩
  subst hd
  walk_at "dl"
  refine fldOf ha he_has ?_
  walk_at "dl"
  exact ⟨vs, hl, h⟩
/-- all that a thing leads to -/
def ledV (s : Hs) (hv : Nat → Option (List Vl)) (n : Nat) : List Vl := (s.parts n).map (·.2) ++ (hv n).getD []
def dLedTo (CT CH CD : Addr) (en : Ed) : SpD := fun ds S k _ => ∃ (H : HA) (s : Hs) (n : Nat) (hv : Nat → Option (List Vl)), ds = [.ref (H.a (.t n))] ∧ HRep CT CH en H s S ∧ Wf s ∧ 1 ≤ n ∧ n ≤ s.many ∧ OwnH CD H S (s.own n) (hv n) ∧ (ledV s hv n).length ≤ 90000 ∧
  ∀ S', Kpt S S' → k (.list ((ledV s hv n).map (vD H))) S'
theorem ok_ledto {fa : Addr} {fd : FuncData} (F : Fun K "led_to" "led_to" s_led_to fa fd) (T : TxW K mg CT CH CD) (G_Held_held : MDef P w K mg base 1 CD "held" ["self"] (lSp K (dHeld CD))) : FnOk P w K mg base CX0 2 fa fd ["thing"] (lSp K (dLedTo CT CH CD en)) := by
  refine dok F sc_led_to (fun ds S q qx ⟨H, s, n, hv, h, _⟩ => by rw [h]; rfl) ⟨_, fun cdv A outer s H E hr => dss_cons (ds_lock (ds_setLcSN (i := 1) (own := [("key", 2)]) (gc_name (j := 2) (by decide)) rfl sc_led_to.nd rfl rfl (sw_true rfl rfl rfl (by decide +kernel)) (di_keys (de_fld T.Thing_ (by decide +kernel) (de_var 0))) (blkOk_by (N := N_led_to) (sc := defScope s_led_to) (by decide +kernel)) (fun _ _ _ _ _ => pg_name (i := 2) sc_led_to.nd rfl (Or.inl rfl)) (fun _ _ _ _ _ => dts_nil) (fun _ _ _ _ _ => de_dget (hu_of hr) (de_fld T.Thing_ (by decide +kernel) (de_var 0)) (de_var 2) (fun _ _ => rfl))))
      (dss_cons (ds_if (dt_val (de_callB (clIsi' (K := K)) (si_isiC T.HeldI) (by rfl) T.isinstance (by decide +kernel) (da_cons (de_fld T.Thing_ (by decide +kernel) (de_var 0)) (da_cons (de_gl (by rfl) T.Held) da_nil))))
        (dss_one (ds_expr (de_ml PySem.F.slot_list_extend PySem.F.type_list_extend mt_extend si_ext (de_var 1) (da_cons (de_meth0 T.Held_ G_Held_held (hr.mono (by decide)) (de_fld T.Thing_ (by decide +kernel) (de_var 0))) da_nil))))
        (dss_nil))
      (dss_one (ds_ret (de_frz 1)))), fun ds S q qx ⟨H, s, n, hv, hd, R, W, h1, h2, ho, hl, h⟩ => ?_⟩
  subst hd
  have ht := hrep_t R h1 h2
  have hp := hrep_pd R h1 h2
  walk_at "dl"
  refine lockOf hp fun od xs => ?_
  have npt : H.a (.t n) ≠ H.a (.pd n) := R.ne (nn (hC_t h1 h2)) (nn (hC_pd h1 h2)) nofun
  have hL : (put S (H.a (.pd n)) (.lck od xs ((s.parts n).map fun kv => ((kv.1, vD H kv.2) : Key × D)))) (H.a (.pd n)) = some (.lck od xs ((s.parts n).map fun kv => ((kv.1, vD H kv.2) : Key × D))) := put_same
  have ht' := (put_ne (S := S) (o := .lck od xs ((s.parts n).map fun kv => ((kv.1, vD H kv.2) : Key × D))) npt).trans ht
  have hdel : ∀ b, b ≠ H.a (.pd n) → put S (H.a (.pd n)) (.lck od xs ((s.parts n).map fun kv => ((kv.1, vD H kv.2) : Key × D))) b = S b := fun b hb => put_ne hb
  have hback : put (put S (H.a (.pd n)) (.lck od xs ((s.parts n).map fun kv => ((kv.1, vD H kv.2) : Key × D)))) (H.a (.pd n)) (.dct ((s.parts n).map fun kv => ((kv.1, vD H kv.2) : Key × D))) = S := by rw [put_put, put_self hp]
  generalize put S (H.a (.pd n)) (.lck od xs ((s.parts n).map fun kv => ((kv.1, vD H kv.2) : Key × D))) = SL at hL ht' hdel hback
  walk_at "dl"
  refine fldOf ht' th_parts ?_
  walk_at "dl"
  refine skOf hL ?_
  refine lcSNOf (fun i acc => acc = ((s.parts n).take i).map fun kv => vD H kv.2) (by rw [List.length_map, List.length_map]; have := W.plen n; omega) (fun p' acc hp' => by rw [put_ne (sto_ne hL hp')]; exact hL) rfl ?_ ?_
  · rintro p' hp' i d acc hi rfl
    rw [List.map_map, List.getElem?_map] at hi
    obtain ⟨kv, hkv, hd⟩ := Option.map_eq_some_iff.mp hi
    have hd : dK kv.1 = d := hd
    subst hd
    have hgv : gval ((s.parts n).map fun kv => ((kv.1, vD H kv.2) : Key × D)) kv.1 = some (vD H kv.2) := by
      rw [gval_vD, gval_nodup (W.key n) (List.mem_of_getElem? hkv)]
      rfl
    walk_at "dl"
    refine fldOf (by rw [put_ne (sto_ne ht' hp')]; exact ht') th_parts ?_
    walk_at "dl"
    refine dgetOfR (.inr ⟨od, xs, by rw [put_ne (sto_ne hL hp')]; exact hL⟩) (keyD_dK kv.1) hgv ?_
    refine LcO.of hp' ?_
    rw [List.take_add_one, hkv, List.map_append]
    rfl
  · rintro acc pv hpv rfl
    have el : ((s.parts n).take (List.map (fun kv : Key × D => dK kv.1) ((s.parts n).map fun kv => ((kv.1, vD H kv.2) : Key × D))).length) = s.parts n := by rw [List.length_map, List.length_map, List.take_length]
    rw [el]
    have npv : pv ≠ H.a (.pd n) := Ne.symm (sto_ne hL hpv)
    have hpv0 : S pv = none := by rw [← hdel pv npv]; exact hpv
    walk_at "dl"
    refine ⟨by rw [put_ne (Ne.symm npv)]; exact hL, ?_⟩
    rw [put_comm npv, hback]
    have R2 := (Kpt.tr R (Kpt.refl.put hpv0 (.lst ((s.parts n).map fun kv => vD H kv.2)))).rep
    have ht2 := hrep_t R2 h1 h2
    have fin : ∀ e : List Vl, (ledV s hv n) = (s.parts n).map (·.2) ++ e → q (.list (((s.parts n).map fun kv => vD H kv.2) ++ e.map (vD H))) S := fun e he => by
      have := h S Kpt.refl
      rw [he, List.map_append, List.map_map] at this
      exact this
    walk_at "dl"
    refine fldOf ht2 th_own ?_
    cases eh : hv n with
    | none =>
      rw [eh] at ho
      have fin0 := fin [] (by unfold ledV; rw [eh]; rfl)
      rw [List.map_nil, List.append_nil] at fin0
      have ho : NoTh (s.own n) := ho
      generalize s.own n = o at ho
      have last : frzq (.ref pv) (put S pv (.lst ((s.parts n).map fun kv => vD H kv.2))) (fun x S' => q x S') ⟨⟩ := frzOf put_same (by rw [del_put hpv0]; exact fin0)
      cases ho with
      | non => walk_at "dl"; exact last
      | int i => walk_at "dl"; exact last
      | str z hz => walk_at "dl"; exact last
      | bl b => walk_at "dl"; exact last
    | some vs =>
      rw [eh] at ho
      obtain ⟨ah, dx, l, e1, e2, e3⟩ := ho
      have fin1 := fin vs (by unfold ledV; rw [eh]; rfl)
      rw [e1]
      rw [e1] at ht2
      have e2' : put S pv (.lst ((s.parts n).map fun kv => vD H kv.2)) ah = _ := (put_ne (sto_ne e2 hpv0)).trans e2
      have e3' : put S pv (.lst ((s.parts n).map fun kv => vD H kv.2)) l = _ := (put_ne (sto_ne e3 hpv0)).trans e3
      walk_at "dl"
      rw [x_own e2']
      walk_at "dl"
      refine needOf (isLOf put_same) ?_
      walk_at "dl"
      refine fldOf ht2 th_own ?_
      walk_at "dl"
      refine needOf (methOf (x := .non) e2' rfl) ?_
      walk_at "dl"
      refine ⟨ah, dx, l, vs.map (vD H), rfl, e2', e3', ?_⟩
      walk_at "dl"
      refine extOf put_same (by rw [List.length_map, List.length_map]; unfold ledV at hl; rw [eh, List.length_append, List.length_map] at hl; have hl : (s.parts n).length + vs.length ≤ 90000 := hl; omega) ?_
      rw [put_put]
      walk_at "dl"
      exact frzOf put_same (by rw [del_put hpv0]; exact fin1)
def metD (ks : List Nat) : List (Key × D) := ks.map fun n : Nat => ((.inl (n : Int), .bl true) : Key × D)
theorem met_in {ks : List Nat} {n : Nat} : (gval (metD ks) (.inl (n : Int))).isSome = decide (n ∈ ks) := by
  unfold gval metD
  rw [Option.isSome_map, List.find?_map, Option.isSome_map]
  induction ks with
  | nil => rfl
  | cons a l ih =>
    rw [List.find?_cons]
    by_cases z : a = n
    · subst z; simp
    · have : ((fun kv : Key × D => decide (kv.1 = .inl (n : Int))) ∘ fun n : Nat => ((.inl (n : Int), .bl true) : Key × D)) a = false := by
        simp only [Function.comp, decide_eq_false_iff_not]
        intro e
        have := Sum.inl.inj e
        omega
      rw [this]
      simp only [List.mem_cons]
      rw [ih]
      simp [Ne.symm z]
theorem met_put {ks : List Nat} {n : Nat} (h : n ∉ ks) : gput (metD ks) (.inl (n : Int)) (.bl true) = metD (ks ++ [n]) := by
  have : gval (metD ks) (.inl (n : Int)) = none := by
    have := met_in (ks := ks) (n := n)
    rw [decide_eq_false h] at this
    exact Option.isSome_eq_false_iff.mp this |> Option.isNone_iff_eq_none.mp
  rw [gput_new this]
  unfold metD
  rw [List.map_append]
  rfl
/-- what is reached from the roots on, in rising order -/
def RchL (s : Hs) (hv : Nat → Option (List Vl)) (roots : List Vl) (ys : List Int) : Prop := ys.Pairwise (· < ·) ∧ ∀ j : Int, j ∈ ys ↔ ∃ n : Nat, j = (n : Int) ∧ Rch (ledV s hv) roots n
def dReached (CT CH CD : Addr) (en : Ed) : SpD := fun ds S k _ => ∃ (H : HA) (s : Hs) (hv : Nat → Option (List Vl)) (roots : List Vl), ds = [.ref (H.a .hall), .list (roots.map (vD H))] ∧ HRep CT CH en H s S ∧ Wf s ∧ (∀ n, 1 ≤ n → n ≤ s.many → OwnH CD H S (s.own n) (hv n)) ∧
  (∀ v ∈ roots, VOk s.many v) ∧ (∀ n vs, hv n = some vs → ∀ v ∈ vs, VOk s.many v) ∧ roots.length + msum (fun n => (ledV s hv n).length + 1) s.many ≤ 90000 ∧
  ∀ (ys : List Int) (p : Addr) S', Kpt S S' → S p = none → S' p = some (.lst (ys.map D.int)) → RchL s hv roots ys → k (.ref p) S'
theorem todo_len {G : Nat → List Vl} {m : Nat} {ks : List Nat} {ws : List Vl} : ws.length ≤ todo G m ks ws := Nat.le_add_right _ _
theorem unmet_nil {G : Nat → List Vl} {m : Nat} {ws : List Vl} : todo G m [] ws = ws.length + msum (fun n => (G n).length + 1) m := rfl
theorem ok_reached {fa : Addr} {fd : FuncData} (F : Fun K "reached" "reached" s_reached fa fd) (T : TxW K mg CT CH CD) (G_led_to : DefD P w K mg base 2 "led_to" ["thing"] (dLedTo CT CH CD en)) : FnOk P w K mg base CX0 3 fa fd ["hall", "roots"] (lSp K (dReached CT CH CD en)) := by
  refine dok F sc_reached (fun ds S q qx ⟨H, s, hv, roots, h, _⟩ => by rw [h]; rfl) ⟨_, fun cdv A outer s H E hr => dss_cons (ds_set (i := 2) sc_reached.nd rfl (Or.inl rfl) (de_newD))
      (dss_cons (ds_set (i := 3) sc_reached.nd rfl (Or.inl rfl) (de_callTy (clList (K := K)) si_listN (by rfl) T.list (by decide +kernel) (da_cons (de_var 1) da_nil)))
      (dss_cons (ds_while PassesOwn.never (dt_cmp op_gt si_gt (de_callB call_len (si_len rfl) (by rfl) T.len (by decide +kernel) (da_cons (de_var 3) da_nil)) (de_int) (nomark _))
        (dss_cons (ds_set (i := 4) sc_reached.nd rfl (Or.inl rfl) (de_ml0 PySem.F.slot_list_pop PySem.F.type_list_pop mt_pop si_pop (de_var 3)))
        (dss_one (ds_if (PW.pt (dw_and (dt_val (de_callB (clIsi' (K := K)) (si_isiC T.ThingI) (by rfl) T.isinstance (by decide +kernel) (da_cons (de_var 4) (da_cons (de_gl (by rfl) T.Thing) da_nil)))) (dw_and1 (dt_dinN (hu_of hr) (de_fld T.Thing_ (by decide +kernel) (de_var 4)) (de_var 2)))))
          (dss_cons (ds_dput (hu_of hr) (de_var 2) (de_fld T.Thing_ (by decide +kernel) (de_var 4)) (de_bl))
          (dss_one (ds_expr (de_ml PySem.F.slot_list_extend PySem.F.type_list_extend mt_extend si_ext (de_var 3) (da_cons (de_call G_led_to (hr.mono (by decide)) (by rfl) (da_cons (de_var 4) da_nil)) da_nil)))))
          (dss_nil)))))
      (dss_one (ds_ret (de_callB (SD.call_sortedDL rfl) si_sortDLN (by rfl) T.sorted (by decide +kernel) (da_cons (de_var 2) da_nil)))))), fun ds S q qx ⟨H, s, hv, roots, hd, R, W, ho, hr, hvo, hl, h⟩ => ?_⟩
  subst hd
  walk_at "dl"
  refine freshOf fun pm hpm => ?_
  walk_at "dl"
  refine ⟨_, rfl, fun pw hpw => ?_⟩
  walk_at "dl"
  have npm : S pw = none := by rw [put_ne (Ne.symm (sto_ne put_same hpw))] at hpw; exact hpw
  have nmw : pm ≠ pw := sto_ne put_same hpw
  have ok_led : ∀ n, 1 ≤ n → n ≤ s.many → ∀ v ∈ ledV s hv n, VOk s.many v := fun n h1 h2 v hv' => by
    rcases List.mem_append.mp hv' with hv' | hv'
    · obtain ⟨kv, hk, rfl⟩ := List.mem_map.mp hv'
      exact W.pv n kv hk
    · cases e : hv n with
      | none => rw [e] at hv'; cases hv'
      | some vs => rw [e] at hv'; exact hvo n vs e v hv'
  refine whlOf (fun m δ S' => ∃ ks ws z, m ≤ 90000 ∧ δ = [some (.ref (H.a .hall)), some (.list (roots.map (vD H))), some (.ref pm), some (.ref pw), z] ∧ Kpt S S' ∧ S' pm = some (.dct (metD ks)) ∧ S' pw = some (.lst (ws.map (vD H))) ∧ RInv (ledV s hv) s.many roots ks ws ∧ m = todo (ledV s hv) s.many ks ws)
    (todo (ledV s hv) s.many [] roots) ⟨[], roots, _, by rw [unmet_nil]; exact hl, rfl, (Kpt.refl.put hpm _).put npm _, by rw [put_ne nmw]; exact put_same, put_same, RInv.begin hr, rfl⟩ ?_
  rintro m δ S' ⟨ks, ws, z, hm, rfl, kp, e1, e2, I, rfl⟩
  have R' := (Kpt.tr R kp).rep
  walk_at "dl"
  refine lenRf e2 ?_
  walk_at "dl"
  refine br (fun hb => ?_) (fun hb => ?_)
  · have hne : ws ≠ [] := fun z => by rw [z] at hb; simp at hb
    obtain ⟨ws', v, rfl⟩ : ∃ ws' v, ws = ws' ++ [v] := ⟨ws.dropLast, ws.getLast hne, (List.dropLast_concat_getLast hne).symm⟩
    rw [List.map_append] at e2
    walk_at "dl"
    refine needOf (isLOf e2) ?_
    walk_at "dl"
    refine popOf e2 ?_
    have kp2 : Kpt S (put S' pw (.lst (ws'.map (vD H)))) := kp.put npm _
    have e1' : put S' pw (.lst (ws'.map (vD H))) pm = _ := (put_ne nmw).trans e1
    have hv1 := I.okw v (List.mem_append_right _ (List.mem_singleton.mpr rfl))
    have pass : ∀ z : Option D, (∀ n, v = .th n → n ∈ ks) → ∃ m', m' < todo (ledV s hv) s.many ks (ws' ++ [v]) ∧ ∃ ks ws z', m' ≤ 90000 ∧ ([some (.ref (H.a .hall)), some (.list (roots.map (vD H))), some (.ref pm), some (.ref pw), z] : Dst) = [some (.ref (H.a .hall)), some (.list (roots.map (vD H))), some (.ref pm), some (.ref pw), z'] ∧ Kpt S (put S' pw (.lst (ws'.map (vD H)))) ∧ put S' pw (.lst (ws'.map (vD H))) pm = some (.dct (metD ks)) ∧ put S' pw (.lst (ws'.map (vD H))) pw = some (.lst (ws.map (vD H))) ∧ RInv (ledV s hv) s.many roots ks ws ∧ m' = todo (ledV s hv) s.many ks ws := fun z hz => by
      have := todo_non (G := ledV s hv) (m := s.many) (ks := ks) (ws := ws') (v := v)
      exact ⟨todo (ledV s hv) s.many ks ws', by omega, ks, ws', z, by omega, rfl, kp2, e1', put_same, I.non hz, rfl⟩
    cases v with
    | no d =>
      have hv1 : NoTh d := hv1
      have pass := pass (some d) (fun n z => by cases z)
      show _
      rw [show vD H (.no d) = d from rfl]
      cases hv1 with
      | non => walk_at "dl"; exact pass
      | int i => walk_at "dl"; exact pass
      | str z hz => walk_at "dl"; exact pass
      | bl b => walk_at "dl"; exact pass
    | th n =>
      have hb2 : 1 ≤ n ∧ n ≤ s.many := hv1
      have R2 := (Kpt.tr R kp2).rep
      have ht := hrep_t R2 hb2.1 hb2.2
      rw [show vD H (.th n) = .ref (H.a (.t n)) from rfl]
      walk_at "dl"
      rw [x_own ht]
      walk_at "dl"
      refine fldOf ht th_number ?_
      walk_at "dl"
      refine dninOf e1' rfl ?_
      rw [met_in]
      walk_at "dl"
      by_cases hk : n ∈ ks
      · rw [decide_eq_true hk]
        walk_at "dl"
        exact pass _ (fun j z => by cases z; exact hk)
      · rw [decide_eq_false hk]
        walk_at "dl"
        refine fldOf ht th_number ?_
        walk_at "dl"
        have hlen := perm_len I.nd I.okk
        refine dputOf e1' rfl (by unfold metD; rw [List.length_map]; have := W.most; omega) ?_
        rw [met_put hk]
        have e2'' : put (put S' pw (.lst (ws'.map (vD H)))) pm (.dct (metD (ks ++ [n]))) pw = some (.lst (ws'.map (vD H))) := (put_ne (Ne.symm nmw)).trans put_same
        have e1'' : put (put S' pw (.lst (ws'.map (vD H)))) pm (.dct (metD (ks ++ [n]))) pm = some (.dct (metD (ks ++ [n]))) := put_same
        have kp3 : Kpt S (put (put S' pw (.lst (ws'.map (vD H)))) pm (.dct (metD (ks ++ [n])))) := kp2.put hpm _
        generalize put (put S' pw (.lst (ws'.map (vD H)))) pm (.dct (metD (ks ++ [n]))) = S3 at e2'' e1'' kp3
        walk_at "dl"
        refine needOf (isLOf e2'') ?_
        walk_at "dl"
        have td := todo_met (G := ledV s hv) (ws := ws') hb2.1 hb2.2 hk
        have tl := todo_len (G := ledV s hv) (m := s.many) (ks := ks ++ [n]) (ws := ws' ++ ledV s hv n)
        rw [List.length_append] at tl
        refine ⟨H, s, n, hv, rfl, (Kpt.tr R kp3).rep, W, hb2.1, hb2.2, (ho n hb2.1 hb2.2).kpt kp3, by omega, fun S4 kp4 => ?_⟩
        have e24 := kp4.at e2''
        have e14 := kp4.at e1''
        have kp5 := kp3.trans kp4
        walk_at "dl"
        refine extOf e24 (by rw [List.length_map, List.length_map]; omega) ?_
        walk_at "dl"
        exact ⟨todo (ledV s hv) s.many (ks ++ [n]) (ws' ++ ledV s hv n), by omega, ks ++ [n], ws' ++ ledV s hv n, _, by omega, rfl, kp5.put npm _, (put_ne nmw).trans e14, by rw [put_same, List.map_append], I.met hk (ok_led n hb2.1 hb2.2), rfl⟩
  · have hne : ws = [] := by
      cases ws with
      | nil => rfl
      | cons a l => exact absurd hb (by simp)
    subst hne
    walk_at "dl"
    have hlen := perm_len I.nd I.okk
    refine ⟨metD ks, ks.map fun n : Nat => (n : Int), e1, by unfold metD; rw [List.map_map, List.map_map]; rfl, by rw [List.length_map]; have := W.most; omega, fun ys p pm' pw' hp => ?_⟩
    have hnd : (ks.map fun n : Nat => (n : Int)).Nodup := List.pairwise_map.mpr (I.nd.imp fun h e => h (Int.ofNat.inj e))
    refine h ys p _ (kp.put (by cases e : S p with | none => rfl | some o => rw [kp p (nn e), e] at hp; cases hp) _) (by cases e : S p with | none => rfl | some o => rw [kp p (nn e), e] at hp; cases hp) put_same ⟨?_, fun j => ?_⟩
    · exact (pw'.and (pm'.nodup_iff.mpr hnd)).imp fun ⟨a, b⟩ => by omega
    · rw [pm'.mem_iff, List.mem_map]
      exact ⟨fun ⟨n, h1, h2⟩ => ⟨n, h2.symm, (I.done n).mp h1⟩, fun ⟨n, h1, h2⟩ => ⟨n, (I.done n).mpr h2, h1.symm⟩⟩
end
end K

set_option Elab.async false
set_option linter.all false
set_option maxRecDepth 100000
namespace K
open PySem L2 Evl EX DL HM
abbrev s_Hall_at_work : Stmt := inClass (top 4) 8
abbrev N_Hall_at_work : List Str := ["self"]
theorem sc_Hall_at_work : FnScope N_Hall_at_work ["self"] (defScope s_Hall_at_work) := ⟨rfl, rfl, rfl, by decide +kernel, rfl, by decide +kernel, by decide +kernel⟩
abbrev s_Hall_let_all_go : Stmt := inClass (top 4) 15
abbrev N_Hall_let_all_go : List Str := ["self", "things", "thing"]
theorem sc_Hall_let_all_go : FnScope N_Hall_let_all_go ["self", "things"] (defScope s_Hall_let_all_go) := ⟨rfl, rfl, rfl, by decide +kernel, rfl, by decide +kernel, by decide +kernel⟩
abbrev s_without : Stmt := top 9
abbrev N_without : List Str := ["hall", "things", "roots", "near", "number", "thing"]
theorem sc_without : FnScope N_without ["hall", "things", "roots"] (defScope s_without) := ⟨rfl, rfl, rfl, by decide +kernel, rfl, by decide +kernel, by decide +kernel⟩
abbrev s_others_there : Stmt := top 10
abbrev N_others_there : List Str := ["hall", "things", "numbers", "thing", "number"]
theorem sc_others_there : FnScope N_others_there ["hall", "things"] (defScope s_others_there) := ⟨rfl, rfl, rfl, by decide +kernel, rfl, by decide +kernel, by decide +kernel⟩
abbrev s_swept : Stmt := top 11
abbrev N_swept : List Str := ["hall", "around", "lost", "thing", "number"]
theorem sc_swept : FnScope N_swept ["hall", "around"] (defScope s_swept) := ⟨rfl, rfl, rfl, by decide +kernel, rfl, by decide +kernel, by decide +kernel⟩
theorem gval_some {β : Type} {l : List (Key × β)} {k : Key} : (gval l k).isSome = true ↔ k ∈ l.map (·.1) := by
  unfold gval
  rw [Option.isSome_map, List.find?_isSome, List.mem_map]
  exact ⟨fun ⟨x, h1, h2⟩ => ⟨x, h1, of_decide_eq_true h2⟩, fun ⟨x, h1, h2⟩ => ⟨x, h1, decide_eq_true h2⟩⟩
theorem gput_some {β : Type} {l : List (Key × β)} {k j : Key} {v : β} : (gval (gput l k v) j).isSome = true ↔ (gval l j).isSome = true ∨ j = k := by
  rw [gval_some, gval_some, gput_keys]
  split
  · rename_i h
    exact ⟨.inl, fun z => z.elim id fun e => e ▸ h⟩
  · simp
theorem gput_len {β : Type} {l : List (Key × β)} {k : Key} {v : β} : (gput l k v).length ≤ l.length + 1 := by
  have := congrArg List.length (gput_keys l k v)
  rw [List.length_map] at this
  rw [this]
  split
  · rw [List.length_map]; omega
  · rw [List.length_append, List.length_map]; exact Nat.le_refl _
theorem sorted_len {m : Nat} : ∀ {l : List Int} , l.Pairwise (· < ·) → (∀ j ∈ l, 1 ≤ j ∧ j ≤ m) → l.length ≤ m := by
  have key : ∀ (l : List Int) (lo : Int), lo ≤ m → l.Pairwise (· < ·) → (∀ j ∈ l, lo < j ∧ j ≤ m) → lo + l.length ≤ m := by
    intro l
    induction l with
    | nil => intro lo h _ _; simpa using h
    | cons a l ih =>
      intro lo h hp hb
      rw [List.pairwise_cons] at hp
      have h1 := hb a (List.mem_cons_self ..)
      have := ih a h1.2 hp.2 fun j hj => ⟨hp.1 j hj, (hb j (List.mem_cons_of_mem _ hj)).2⟩
      rw [List.length_cons]
      omega
  intro l hp hb
  have := key l 0 (by omega) hp fun j hj => ⟨by have := (hb j hj).1; omega, (hb j hj).2⟩
  omega
theorem rch_bound {s : Hs} (w : Wf s) {rs : List Vl} (hr : ∀ v ∈ rs, VOk s.many v) {n : Nat} (h : Rch (ledP s) rs n) : 1 ≤ n ∧ n ≤ s.many := by
  induction h with
  | root h => exact hr _ h
  | step _ h ih =>
    obtain ⟨kv, hk, e⟩ := List.mem_map.mp h
    have := w.pv _ kv hk
    rw [e] at this
    exact this
/-- no own holds anything -/
def hv0 : Nat → Option (List Vl) := fun _ => none
theorem ledV0 (s : Hs) : ledV s hv0 = ledP s := by
  funext n
  unfold ledV ledP hv0
  rw [Option.getD_none, List.append_nil]
def refs (H : HA) (l : List Nat) : List D := l.map fun n => .ref (H.a (.t n))
section
variable {P : Program} {w : World} {K : PySem.W.Frag} {mg : Str → Option Value} {base : Heap} {CT CH CD : Addr} {en : Ed}
local macro_rules | `(tactic| walk_at "dl") => `(tactic| try simp only [↓x_lcN, ↓x_lcSN, ↓x_catM, ↓x_neV, ↓x_sortSet, ↓x_sortDLN, ↓x_lrg, ↓x_neg, ↓x_lcS, ↓x_lockE, ↓x_eqA, ↓x_dictD, ↓x_disp, ↓x_pNil, ↓x_pCons, ↓x_forS, ↓x_diSL, ↓x_diKeys, ↓x_lock, ↓x_dictP, ↓x_fld, ↓x_fldS, ↓x_fldA, ↓x_meth, ↓x_make, ↓x_dget, ↓x_din, ↓x_dget1, ↓x_dget2, ↓x_dpop, ↓x_dput, ↓x_listD, ↓x_sortDI, ↓x_lenD, ↓x_isiC, x_icS, x_icI, x_icB, x_icN, x_ioS, x_ioI, x_ioB, x_ioN, ↓x_gSub, ↓x_sortDL, ↓x_eqO, ↓x_ninA, x_catN, x_isBB, x_isBN, x_isBI, x_isBS, x_isBR, ↓x_seq, ↓x_nx, ↓x_pass, ↓x_brk, ↓x_cnt, ↓x_drop, ↓x_ret, ↓x_retN, ↓x_ifS, ↓x_set, ↓x_asg, ↓x_gN, ↓x_gT, ↓x_gsC, ↓x_gsN, ↓x_var, x_rdv, ↓x_c, ↓x_op, ↓x_test, x_tst, ↓x_and, ↓x_or, ↓x_not, ↓x_andV, ↓x_orV, ↓x_notV, x_tstV, ↓x_ifE, x_true, x_false, ↓x_nil, ↓x_cons, ↓x_tup, ↓x_lst, ↓x_new, ↓x_newD, ↓x_call, ↓x_cb, x_oI, x_oIc, x_oS, x_addS, x_isN, x_notN, x_eqI, x_eqS, x_eqIS, x_eqSI, x_eqNS, x_neI, x_neS, x_neB, x_eqB, x_few, x_need, ↓x_ix, x_lenS, x_ixL0, x_ixT0, x_ixT1, x_ixT2, x_ixT3, x_ixT4, x_lenL, x_lenT, x_lenC, x_listL, x_listT, x_tupL, x_tupT, x_strI, x_strS, x_int1, x_intB, x_I1, x_I2, x_cat, x_catT, ↓x_split, ↓x_for, ↓x_cut, ↓x_lc, ↓x_whl, ↓x_diL, ↓x_diT, ↓x_diS, x_itL, x_itC, x_itT, x_itS, ↓x_diR1, ↓x_diR2, ↓x_diE, x_enmL, x_enmC, ↓x_gcN, ↓x_gcT, ↓x_yes, ↓x_ml, ↓x_ms, x_strq, x_ss, x_ssc, x_ssi, ↓x_join, ↓x_aug, x_st2I, ↓x_sl, ↓x_noP, ↓x_part, x_intq, x_slL, x_slC, x_slS, ↓x_in, x_inT, x_inL, x_ninT, x_ninL, x_inN, x_inSS, x_inSI, x_inIS, x_inII, ↓x_sg, x_sgS, x_nsgS, ↓x_eqD, ↓x_inDD, x_mulS, ↓x_isi, x_isiS, x_isiI, x_isiB, x_isiN, x_isiL, x_isiT, ↓x_isTT, x_itI, x_itStr, x_itN, x_itB, x_itLst, x_itTup, ↓x_any, ↓x_all, ↓x_sum, ↓x_srtI, ↓x_srtS, ↓x_intS, ↓x_lenRf, ↓x_tupRf, ↓x_frz', x_flS, x_flI, x_flN, x_flB, x_cs_bool, x_isB_NoneType_bool, x_isB_bool_bool, x_isB_int_bool, x_isB_str_bool, x_isB_list_bool, x_isB_tuple_bool, x_isB_dict_bool, x_cs_int, x_isB_NoneType_int, x_isB_bool_int, x_isB_int_int, x_isB_str_int, x_isB_list_int, x_isB_tuple_int, x_isB_dict_int, x_cs_str, x_isB_NoneType_str, x_isB_bool_str, x_isB_int_str, x_isB_str_str, x_isB_list_str, x_isB_tuple_str, x_isB_dict_str, x_cs_list, x_isB_NoneType_list, x_isB_bool_list, x_isB_int_list, x_isB_str_list, x_isB_list_list, x_isB_tuple_list, x_isB_dict_list, x_cs_tuple, x_isB_NoneType_tuple, x_isB_bool_tuple, x_isB_int_tuple, x_isB_str_tuple, x_isB_list_tuple, x_isB_tuple_tuple, x_isB_dict_tuple, x_cs_dict, x_isB_NoneType_dict, x_isB_bool_dict, x_isB_int_dict, x_isB_str_dict, x_isB_list_dict, x_isB_tuple_dict, x_isB_dict_dict, List.all_cons, List.all_nil, Bool.and_self, Bool.or_false, Bool.or_true, Bool.false_or, Bool.true_or, wipeD, setD, DL.isNon, List.set_cons_zero, List.set_cons_succ, List.getElem?_cons_zero, List.getElem?_cons_succ, List.length_cons, List.length_nil, Nat.zero_add, List.cons_append, List.nil_append, decide_true, decide_false, Bool.not_true, Bool.not_false, true_and, and_true, startD, List.map_cons, List.map_nil, Nat.reduceSub, Nat.reduceLeDiff, Nat.zero_le, Int.reduceLT, Int.reduceLE, and_self, Nat.reduceAdd, List.replicate])
def dAtWork (CT CH : Addr) (en : Ed) : SpD := fun ds S k _ => ∃ (H : HA) (s : Hs), ds = [.ref (H.a .hall)] ∧ HRep CT CH en H s S ∧ k (.bl (decide (0 < s.lasts) || s.row.isSome)) S
theorem ok_at_work {fa : Addr} {fd : FuncData} (F : Fun K "at_work" "Hall.at_work" s_Hall_at_work fa fd) (T : Txt K mg CT CH) : FnOk P w K mg base CX0 1 fa fd ["self"] (lSp K (dAtWork CT CH en)) := by
  refine dok F sc_Hall_at_work (fun ds S q qx ⟨H, s, h, _⟩ => by rw [h]; rfl) ⟨_, fun cdv A outer s H E hr => dss_one (ds_ret (de_or (de_cmp op_gt si_gt (de_fld T.Hall_ (by decide +kernel) (de_var 0)) (de_int) (nomark _)) (de_one (de_cmp op_notN si_notN (de_fld T.Hall_ (by decide +kernel) (de_var 0)) (de_non) (nomark _))))), fun ds S q qx ⟨H, s, hd, R, h⟩ => ?_⟩
  subst hd
  have e := hrep_hall R
  walk_at "dl"
  refine fldOf e ha_lasts ?_
  walk_at "dl"
  have e1 : decide (0 < (s.lasts : Int)) = decide (0 < s.lasts) := decide_eq_decide.mpr (by omega)
  rw [e1]
  refine br (fun hb => ?_) (fun hb => ?_)
  · rw [hb] at h
    exact h
  · rw [hb] at h
    walk_at "dl"
    refine fldOf e ha_row ?_
    cases er : s.row with
    | none => rw [er] at h; simp only [rowD]; walk_at "dl"; exact h
    | some l => rw [er] at h; simp only [rowD]; walk_at "dl"; exact h
/-- which of some things are not reached -/
def dWithout (CT CH : Addr) (en : Ed) : SpD := fun ds S k _ => ∃ (H : HA) (s : Hs) (l : List Nat) (roots : List Vl), ds = [.ref (H.a .hall), .list (refs H l), .list (roots.map (vD H))] ∧ HRep CT CH en H s S ∧ Wf s ∧ (∀ n, 1 ≤ n → n ≤ s.many → NoTh (s.own n)) ∧ (∀ n ∈ l, 1 ≤ n ∧ n ≤ s.many) ∧ l.length ≤ 5000 ∧
  (∀ v ∈ roots, VOk s.many v) ∧ roots.length + msum (fun n => (ledP s n).length + 1) s.many ≤ 90000 ∧ ∀ (p : Nat → Bool) S', Kpt S S' → (∀ n, p n = true ↔ ¬ Rch (ledP s) roots n) → k (.list (refs H (l.filter p))) S'
theorem ok_without {fa : Addr} {fd : FuncData} (F : Fun K "without" "without" s_without fa fd) (T : TxW K mg CT CH CD) (G_reached : DefD P w K mg base 3 "reached" ["hall", "roots"] (dReached CT CH CD en)) : FnOk P w K mg base CX0 4 fa fd ["hall", "things", "roots"] (lSp K (dWithout CT CH en)) := by
  refine dok F sc_without (fun ds S q qx ⟨H, s, l, roots, h, _⟩ => by rw [h]; rfl) ⟨_, fun cdv A outer s H E hr => dss_cons (ds_set (i := 3) sc_without.nd rfl (Or.inr rfl) (de_newD))
      (dss_cons (ds_forS PassesOwn.never rfl (di_stl (K := K) (de_call G_reached (hr.mono (by decide)) (by rfl) (da_cons (de_var 0) (da_cons (de_var 2) da_nil)))) (dg_name (i := 4) sc_without.nd rfl (Or.inl rfl))
        (dss_one (ds_dput (hu_of hr) (de_var 3) (de_var 4) (de_bl))))
      (dss_one (ds_ret (de_lc (own := [("thing", 5)]) (gc_name (j := 5) (by decide)) rfl sc_without.nd (di_list (K := K) (de_var 1)) (blkOk_by (N := N_without) (sc := defScope s_without) (by decide +kernel)) (fun _ _ _ _ _ => pg_name (i := 5) sc_without.nd rfl (Or.inl rfl)) (fun _ _ _ _ _ => dts_one (dt_dinN (hu_of hr) (de_fld T.Thing_ (by decide +kernel) (de_var 5)) (de_var 3))) (fun _ _ _ _ _ => de_var 5))))), fun ds S q qx ⟨H, s, l, roots, hd, R, W, ho, hlb, hll, hr, hsz, h⟩ => ?_⟩
  subst hd
  walk_at "dl"
  refine freshOf fun pn hpn => ?_
  have kp0 : Kpt S (put S pn (.dct [])) := Kpt.refl.put hpn _
  walk_at "dl"
  refine ⟨H, s, hv0, roots, rfl, (Kpt.tr R kp0).rep, W, fun n h1 h2 => ho n h1 h2, hr, fun _ _ e => (by cases e), by rw [ledV0]; exact hsz, fun ys p S1 kp1 hp hys hrl => ?_⟩
  walk_at "dl"
  have en1 := (kp1.at (put_same (S := S) (a := pn) (o := .dct [])))
  have nnp : pn ≠ p := sto_ne put_same hp
  have hp0 : S p = none := by rw [put_ne (Ne.symm nnp)] at hp; exact hp
  have kp01 : Kpt S S1 := kp0.trans kp1
  have hyl : ys.length ≤ s.many := sorted_len hrl.1 fun j hj => by
    obtain ⟨n, rfl, hn⟩ := (hrl.2 j).mp hj
    rw [ledV0] at hn
    have := rch_bound W hr hn
    omega
  have hmost := W.most
  refine slOf hys ?_
  walk_at "dl"
  refine forSOf (fun i δ S' => ∃ z, δ = [some (.ref (H.a .hall)), some (.list (refs H l)), some (.list (roots.map (vD H))), some (.ref pn), z, none] ∧ Kpt S S' ∧ ∃ kvs : List (Key × D), S' pn = some (.dct kvs) ∧ kvs.length ≤ i ∧ ∀ j : Int, (gval kvs (.inl j)).isSome = true ↔ j ∈ ys.take i) ⟨_, rfl, kp01, [], en1, Nat.le_refl _, fun j => by simp [gval]⟩ hys ?_ ?_
  · rintro i d δ S2 hi hys2 ⟨z, rfl, kp2, kvs, hk, hkl, hkm⟩
    rw [List.getElem?_map] at hi
    obtain ⟨j, hj, rfl⟩ := Option.map_eq_some_iff.mp hi
    have hil := (List.getElem?_eq_some_iff.mp hj).1
    walk_at "dl"
    refine dputOf hk rfl (by omega) ?_
    refine ⟨by rw [put_ne (Ne.symm nnp)]; exact hys2, _, rfl, kp2.put hpn _, _, put_same, Nat.le_trans gput_len (by omega), fun j' => ?_⟩
    rw [gput_some, hkm, List.take_add_one, hj, List.mem_append]
    simp
  · rintro δ S2 hys2 ⟨z, rfl, kp2, kvs, hk, hkl, hkm⟩
    rw [List.length_map, List.take_length] at hkm
    walk_at "dl"
    have hp : ∀ n : Nat, (!(gval kvs (.inl (n : Int))).isSome) = true ↔ ¬ Rch (ledP s) roots n := fun n => by
      rw [Bool.not_eq_true', ← Bool.not_eq_true, hkm, hrl.2, ledV0]
      refine not_congr ⟨fun ⟨m, e, h⟩ => ?_, fun h => ⟨n, rfl, h⟩⟩
      have e2 : n = m := by omega
      rw [e2]
      exact h
    refine lcOf (fun i acc => acc = refs H ((l.take i).filter fun n : Nat => !(gval kvs (.inl (n : Int))).isSome)) (by unfold refs; rw [List.length_map]; omega) rfl ?_ ?_
    · rintro pl hpl i d acc hi rfl
      unfold refs at hi
      rw [List.getElem?_map] at hi
      obtain ⟨n, hn, rfl⟩ := Option.map_eq_some_iff.mp hi
      have hb := hlb n (List.mem_of_getElem? hn)
      have kp3 := kp2.put (p := pl) (by cases e : S pl with | none => rfl | some o => rw [kp2 pl (nn e), e] at hpl; cases hpl) (.lst (refs H ((l.take i).filter fun n : Nat => !(gval kvs (.inl (n : Int))).isSome)))
      walk_at "dl"
      refine fldOf (hrep_t (Kpt.tr R kp3).rep hb.1 hb.2) th_number ?_
      walk_at "dl"
      refine dninOf ((put_ne (sto_ne hk hpl)).trans hk) rfl ?_
      walk_at "dl"
      have etk : (l.take (i + 1)).filter (fun n : Nat => !(gval kvs (.inl (n : Int))).isSome) = (l.take i).filter (fun n : Nat => !(gval kvs (.inl (n : Int))).isSome) ++ if (!(gval kvs (.inl (n : Int))).isSome) = true then [n] else [] := by
        rw [List.take_add_one, hn, List.filter_append]
        congr 1
        show List.filter _ [n] = _
        rw [List.filter_cons]
        rfl
      refine br (fun hb => ?_) (fun hb => ?_)
      · walk_at "dl"
        refine LcO.of hpl ?_
        rw [etk, if_pos hb]
        unfold refs
        rw [List.map_append]
        rfl
      · refine LcO.of hpl ?_
        rw [etk, if_neg (by rw [hb]; exact nofun), List.append_nil]
    · rintro acc rfl
      unfold refs
      rw [List.length_map, List.take_length]
      exact h _ S2 kp2 hp
end
end K

set_option Elab.async false
set_option linter.all false
set_option maxRecDepth 100000
namespace HM
open PySem L2 DL
theorem ups_snoc : ∀ (l : List Nat) (s : Hs) (n : Nat), s.ups (l ++ [n]) = (s.ups l).up n
  | [], _, _ => rfl
  | a :: l, s, n => ups_snoc l (s.up a) n
theorem downs_snoc : ∀ (l : List Nat) (s : Hs) (n : Nat), s.downs (l ++ [n]) = (s.downs l).down n
  | [], _, _ => rfl
  | a :: l, s, n => downs_snoc l (s.down a) n
theorem gones_snoc : ∀ (l : List Nat) (s : Hs) (n : Nat), s.gones (l ++ [n]) = (s.gones l).gone n
  | [], _, _ => rfl
  | a :: l, s, n => gones_snoc l (s.gone a) n
theorem empts_snoc : ∀ (l : List Nat) (s : Hs) (n : Nat), s.empts (l ++ [n]) = ((s.empts l).emptied n ((s.empts l).parts n)).bare n
  | [], _, _ => rfl
  | a :: l, s, n => empts_snoc l ((s.emptied a (s.parts a)).bare a) n
/-- a rising list of numbers -/
theorem perm_nats {ys : List Int} {l : List Nat} (h : ys.Perm (l.map fun n : Nat => (n : Int))) (hs : ys.Pairwise (· ≤ ·)) (nd : l.Nodup) : ∃ ns : List Nat, ys = ns.map (fun n : Nat => (n : Int)) ∧ ns.Perm l ∧ ns.Pairwise (· < ·) := by
  have e : ys = (ys.map Int.toNat).map (fun n : Nat => (n : Int)) := by
    rw [List.map_map]
    refine (List.map_id _).symm.trans (List.map_congr_left fun j hj => ?_)
    obtain ⟨n, _, rfl⟩ := List.mem_map.mp (h.mem_iff.mp hj)
    show (n : Int) = ((n : Int).toNat : Int)
    omega
  have hp : (ys.map Int.toNat).Perm l := by
    have := h.map Int.toNat
    rw [List.map_map] at this
    refine this.trans (List.Perm.of_eq ((List.map_congr_left fun n _ => ?_).trans (List.map_id _)))
    show (n : Int).toNat = n
    omega
  refine ⟨ys.map Int.toNat, e, hp, ?_⟩
  have hn := hp.nodup_iff.mpr nd
  refine (List.Pairwise.and (List.pairwise_map.mpr (hs.imp_of_mem fun {a b} ha hb hab => ?_)) hn).imp fun {a b} (h : a ≤ b ∧ a ≠ b) => by omega
  obtain ⟨n, _, rfl⟩ := List.mem_map.mp (h.mem_iff.mp ha)
  obtain ⟨m, _, rfl⟩ := List.mem_map.mp (h.mem_iff.mp hb)
  omega
end HM
namespace K
open PySem L2 Evl EX DL HM
section
variable {P : Program} {w : World} {K : PySem.W.Frag} {mg : Str → Option Value} {base : Heap} {CT CH CD : Addr} {en : Ed}
local macro_rules | `(tactic| walk_at "dl") => `(tactic| try simp only [↓x_lcN, ↓x_lcSN, ↓x_catM, ↓x_neV, ↓x_sortSet, ↓x_sortDLN, ↓x_lrg, ↓x_neg, ↓x_lcS, ↓x_lockE, ↓x_eqA, ↓x_dictD, ↓x_disp, ↓x_pNil, ↓x_pCons, ↓x_forS, ↓x_diSL, ↓x_diKeys, ↓x_lock, ↓x_dictP, ↓x_fld, ↓x_fldS, ↓x_fldA, ↓x_meth, ↓x_make, ↓x_dget, ↓x_din, ↓x_dget1, ↓x_dget2, ↓x_dpop, ↓x_dput, ↓x_listD, ↓x_sortDI, ↓x_lenD, ↓x_isiC, x_icS, x_icI, x_icB, x_icN, x_ioS, x_ioI, x_ioB, x_ioN, ↓x_gSub, ↓x_sortDL, ↓x_eqO, ↓x_ninA, x_catN, x_isBB, x_isBN, x_isBI, x_isBS, x_isBR, ↓x_seq, ↓x_nx, ↓x_pass, ↓x_brk, ↓x_cnt, ↓x_drop, ↓x_ret, ↓x_retN, ↓x_ifS, ↓x_set, ↓x_asg, ↓x_gN, ↓x_gT, ↓x_gsC, ↓x_gsN, ↓x_var, x_rdv, ↓x_c, ↓x_op, ↓x_test, x_tst, ↓x_and, ↓x_or, ↓x_not, ↓x_andV, ↓x_orV, ↓x_notV, x_tstV, ↓x_ifE, x_true, x_false, ↓x_nil, ↓x_cons, ↓x_tup, ↓x_lst, ↓x_new, ↓x_newD, ↓x_call, ↓x_cb, x_oI, x_oIc, x_oS, x_addS, x_isN, x_notN, x_eqI, x_eqS, x_eqIS, x_eqSI, x_eqNS, x_neI, x_neS, x_neB, x_eqB, x_few, x_need, ↓x_ix, x_lenS, x_ixL0, x_ixT0, x_ixT1, x_ixT2, x_ixT3, x_ixT4, x_lenL, x_lenT, x_lenC, x_listL, x_listT, x_tupL, x_tupT, x_strI, x_strS, x_int1, x_intB, x_I1, x_I2, x_cat, x_catT, ↓x_split, ↓x_for, ↓x_cut, ↓x_lc, ↓x_whl, ↓x_diL, ↓x_diT, ↓x_diS, x_itL, x_itC, x_itT, x_itS, ↓x_diR1, ↓x_diR2, ↓x_diE, x_enmL, x_enmC, ↓x_gcN, ↓x_gcT, ↓x_yes, ↓x_ml, ↓x_ms, x_strq, x_ss, x_ssc, x_ssi, ↓x_join, ↓x_aug, x_st2I, ↓x_sl, ↓x_noP, ↓x_part, x_intq, x_slL, x_slC, x_slS, ↓x_in, x_inT, x_inL, x_ninT, x_ninL, x_inN, x_inSS, x_inSI, x_inIS, x_inII, ↓x_sg, x_sgS, x_nsgS, ↓x_eqD, ↓x_inDD, x_mulS, ↓x_isi, x_isiS, x_isiI, x_isiB, x_isiN, x_isiL, x_isiT, ↓x_isTT, x_itI, x_itStr, x_itN, x_itB, x_itLst, x_itTup, ↓x_any, ↓x_all, ↓x_sum, ↓x_srtI, ↓x_srtS, ↓x_intS, ↓x_lenRf, ↓x_tupRf, ↓x_frz', x_flS, x_flI, x_flN, x_flB, x_cs_bool, x_isB_NoneType_bool, x_isB_bool_bool, x_isB_int_bool, x_isB_str_bool, x_isB_list_bool, x_isB_tuple_bool, x_isB_dict_bool, x_cs_int, x_isB_NoneType_int, x_isB_bool_int, x_isB_int_int, x_isB_str_int, x_isB_list_int, x_isB_tuple_int, x_isB_dict_int, x_cs_str, x_isB_NoneType_str, x_isB_bool_str, x_isB_int_str, x_isB_str_str, x_isB_list_str, x_isB_tuple_str, x_isB_dict_str, x_cs_list, x_isB_NoneType_list, x_isB_bool_list, x_isB_int_list, x_isB_str_list, x_isB_list_list, x_isB_tuple_list, x_isB_dict_list, x_cs_tuple, x_isB_NoneType_tuple, x_isB_bool_tuple, x_isB_int_tuple, x_isB_str_tuple, x_isB_list_tuple, x_isB_tuple_tuple, x_isB_dict_tuple, x_cs_dict, x_isB_NoneType_dict, x_isB_bool_dict, x_isB_int_dict, x_isB_str_dict, x_isB_list_dict, x_isB_tuple_dict, x_isB_dict_dict, List.all_cons, List.all_nil, Bool.and_self, Bool.or_false, Bool.or_true, Bool.false_or, Bool.true_or, wipeD, setD, DL.isNon, List.set_cons_zero, List.set_cons_succ, List.getElem?_cons_zero, List.getElem?_cons_succ, List.length_cons, List.length_nil, Nat.zero_add, List.cons_append, List.nil_append, decide_true, decide_false, Bool.not_true, Bool.not_false, true_and, and_true, startD, List.map_cons, List.map_nil, Nat.reduceSub, Nat.reduceLeDiff, Nat.zero_le, Int.reduceLT, Int.reduceLE, and_self, Nat.reduceAdd, List.replicate])
theorem there_get {H : HA} {l : List Nat} {n : Nat} (h : n ∈ l) : gval (l.map fun n : Nat => ((.inl (n : Int), .ref (H.a (.t n))) : Key × D)) (.inl (n : Int)) = some (.ref (H.a (.t n))) := by
  induction l with
  | nil => cases h
  | cons k l ih =>
    unfold gval at ih ⊢
    rw [List.map_cons, List.find?_cons]
    by_cases z : k = n
    · subst z
      simp
    · have : ¬ ((Sum.inl (k : Int) : Key) = Sum.inl (n : Int)) := fun y => z (by have := Sum.inl.inj y; omega)
      simp only [this, decide_false]
      exact ih ((List.mem_cons.mp h).resolve_left (Ne.symm z))
/-- what is there but some -/
def dOthers (CT CH : Addr) (en : Ed) : SpD := fun ds S k _ => ∃ (H : HA) (s : Hs) (l : List Nat), ds = [.ref (H.a .hall), .list (refs H l)] ∧ HRep CT CH en H s S ∧ Wf s ∧ (∀ n ∈ l, 1 ≤ n ∧ n ≤ s.many) ∧ l.length ≤ 5000 ∧
  ∀ (o : List Nat) S', Kpt S S' → (∀ n, n ∈ o ↔ n ∈ s.there ∧ n ∉ l) → o.length ≤ 5000 → k (.list (refs H o)) S'
theorem ok_others {fa : Addr} {fd : FuncData} (F : Fun K "others_there" "others_there" s_others_there fa fd) (T : Txt K mg CT CH) (G_Hall_things : MDef P w K mg base 1 CH "things" ["self"] (lSp K (dThings CT CH en))) : FnOk P w K mg base CX0 4 fa fd ["hall", "things"] (lSp K (dOthers CT CH en)) := by
  refine dok F sc_others_there (fun ds S q qx ⟨H, s, l, h, _⟩ => by rw [h]; rfl) ⟨_, fun cdv A outer s H E hr => dss_cons (ds_set (i := 2) sc_others_there.nd rfl (Or.inr rfl) (de_newD))
      (dss_cons (ds_for PassesOwn.never rfl (di_list (K := K) (de_var 1)) (dg_name (i := 3) sc_others_there.nd rfl (Or.inl rfl))
        (dss_one (ds_dput (hu_of hr) (de_var 2) (de_fld T.Thing_ (by decide +kernel) (de_var 3)) (de_bl))))
      (dss_one (ds_ret (de_lc (own := [("number", 4)]) (gc_name (j := 4) (by decide)) rfl sc_others_there.nd (di_list (K := K) (de_meth0 T.Hall_ G_Hall_things (hr.mono (by decide)) (de_var 0))) (blkOk_by (N := N_others_there) (sc := defScope s_others_there) (by decide +kernel)) (fun _ _ _ _ _ => pg_name (i := 4) sc_others_there.nd rfl (Or.inl rfl)) (fun _ _ _ _ _ => dts_one (dt_dinN (hu_of hr) (de_var 4) (de_var 2))) (fun _ _ _ _ _ => de_dget (hu_of hr) (de_fld T.Hall_ (by decide +kernel) (de_var 0)) (de_var 4) (fun _ _ => rfl)))))), fun ds S q qx ⟨H, s, l, hd, R, W, hlb, hll, h⟩ => ?_⟩
  subst hd
  walk_at "dl"
  refine freshOf fun pn hpn => ?_
  have kp0 : Kpt S (put S pn (.dct [])) := Kpt.refl.put hpn _
  have e0 : put S pn (.dct []) pn = some (.dct []) := put_same
  generalize put S pn (.dct []) = S1 at kp0 e0
  walk_at "dl"
  refine forOf (fun i δ S' => ∃ z, δ = [some (.ref (H.a .hall)), some (.list (refs H l)), some (.ref pn), z, none] ∧ Kpt S S' ∧ ∃ kvs : List (Key × D), S' pn = some (.dct kvs) ∧ kvs.length ≤ i ∧ ∀ j : Nat, (gval kvs (.inl (j : Int))).isSome = true ↔ j ∈ l.take i) ⟨_, rfl, kp0, [], e0, Nat.le_refl _, fun j => by simp [gval]⟩ ?_ ?_
  · rintro i d δ S2 hi ⟨z, rfl, kp2, kvs, hk, hkl, hkm⟩
    unfold refs at hi
    rw [List.getElem?_map] at hi
    obtain ⟨n, hn, rfl⟩ := Option.map_eq_some_iff.mp hi
    have hb := hlb n (List.mem_of_getElem? hn)
    have hil := (List.getElem?_eq_some_iff.mp hn).1
    walk_at "dl"
    refine fldOf (hrep_t (Kpt.tr R kp2).rep hb.1 hb.2) th_number ?_
    walk_at "dl"
    refine dputOf hk rfl (by omega) ?_
    refine ⟨_, rfl, kp2.put hpn _, _, put_same, Nat.le_trans gput_len (by omega), fun j' => ?_⟩
    rw [gput_some, hkm, List.take_add_one, hn, List.mem_append]
    simp only [Sum.inl.injEq, Option.toList_some, List.mem_singleton, Int.natCast_inj]
  · rintro δ S2 ⟨z, rfl, kp2, kvs, hk, hkl, hkm⟩
    unfold refs at hkm
    rw [List.length_map, List.take_length] at hkm
    have R2 := (Kpt.tr R kp2).rep
    walk_at "dl"
    refine needOf (methOf (x := .non) (hrep_hall R2) rfl) ?_
    walk_at "dl"
    refine ⟨H, s, rfl, R2, W, fun ys hp hs => ?_⟩
    obtain ⟨ns, rfl, hpn, hsn⟩ := perm_nats hp hs W.nd
    have hnl : ns.length ≤ 5000 := by
      have := hpn.length_eq
      have := W.len
      have := W.most
      omega
    rw [List.map_map]
    walk_at "dl"
    refine lcOf (fun i acc => acc = refs H ((ns.take i).filter fun n : Nat => !(gval kvs (.inl (n : Int))).isSome)) (by rw [List.length_map]; omega) rfl ?_ ?_
    · rintro pl hpl i d acc hi rfl
      rw [List.getElem?_map] at hi
      obtain ⟨n, hn, rfl⟩ := Option.map_eq_some_iff.mp hi
      have hnt : n ∈ s.there := hpn.mem_iff.mp (List.mem_of_getElem? hn)
      have kp3 := kp2.put (p := pl) (by cases e : S pl with | none => rfl | some o => rw [kp2 pl (nn e), e] at hpl; cases hpl) (.lst (refs H ((ns.take i).filter fun n : Nat => !(gval kvs (.inl (n : Int))).isSome)))
      have R3 := (Kpt.tr R kp3).rep
      show gcN 4 (.int (n : Int)) _ _
      walk_at "dl"
      refine dninOf ((put_ne (sto_ne hk hpl)).trans hk) rfl ?_
      walk_at "dl"
      have etk : (ns.take (i + 1)).filter (fun n : Nat => !(gval kvs (.inl (n : Int))).isSome) = (ns.take i).filter (fun n : Nat => !(gval kvs (.inl (n : Int))).isSome) ++ if (!(gval kvs (.inl (n : Int))).isSome) = true then [n] else [] := by
        rw [List.take_add_one, hn, List.filter_append]
        congr 1
        show List.filter _ [n] = _
        rw [List.filter_cons]
        rfl
      refine br (fun hb => ?_) (fun hb => ?_)
      · walk_at "dl"
        refine fldOf (hrep_hall R3) ha_there ?_
        walk_at "dl"
        refine dgetOf (hrep_th R3) rfl (there_get hnt) ?_
        refine LcO.of hpl ?_
        rw [etk, if_pos hb]
        unfold refs
        rw [List.map_append]
        rfl
      · refine LcO.of hpl ?_
        rw [etk, if_neg (by rw [hb]; exact nofun), List.append_nil]
    · rintro acc rfl
      rw [List.length_map, List.take_length]
      refine h _ S2 kp2 (fun n => ?_) (Nat.le_trans (List.length_filter_le ..) hnl)
      rw [List.mem_filter, hpn.mem_iff, Bool.not_eq_true', ← Bool.not_eq_true, hkm]
/-- some are gone together -/
def dAllGo (CT CH : Addr) (en : Ed) (ask : AskR) : SpD := fun ds S k _ => ∃ (H : HA) (s : Hs) (l : List Nat) (f : Nat) (s' : Hs), ds = [.ref (H.a .hall), .list (refs H l)] ∧ HRep CT CH en H s S ∧ Wf s ∧ Good s ∧ s.row = none ∧ l.Nodup ∧ (∀ n ∈ l, n ∈ s.there) ∧ Work ask f (((s.rowed (some [])).gones l).empts l) s' ∧
  ∀ H' S', HTr CT CH en H s S H' s' S' → k .non S'
theorem ok_all_go {L : Nat} {ask : AskR} (hL : 3 ≤ L) {fa : Addr} {fd : FuncData} (F : Fun K "let_all_go" "Hall.let_all_go" s_Hall_let_all_go fa fd) (T : Txt K mg CT CH) (G_Hall_be_gone : MDef P w K mg base 1 CH "be_gone" ["self", "thing"] (lSp K (dBeGone CT CH en))) (G_Hall_empty : MDef P w K mg base 3 CH "empty" ["self", "thing"] (lSp K (dEmpty CT CH en)))
    (G_Hall_work : MDef P w K mg base L CH "work" ["self"] (lSp K (dWork CT CH en ask))) : FnOk P w K mg base CX0 (L + 1) fa fd ["self", "things"] (lSp K (dAllGo CT CH en ask)) := by
  refine dok F sc_Hall_let_all_go (fun ds S q qx ⟨H, s, l, f, s', h, _⟩ => by rw [h]; rfl) ⟨_, fun cdv A outer s H E hr => dss_cons (ds_fld T.Hall_ (by decide +kernel) (de_var 0) (de_new (da_nil)))
      (dss_cons (ds_for PassesOwn.never rfl (di_list (K := K) (de_var 1)) (dg_name (i := 2) sc_Hall_let_all_go.nd rfl (Or.inl rfl))
        (dss_one (ds_expr (de_meth T.Hall_ G_Hall_be_gone (hr.mono (by omega)) (de_var 0) (da_cons (de_var 2) da_nil)))))
      (dss_cons (ds_for PassesOwn.never rfl (di_list (K := K) (de_var 1)) (dg_name (i := 2) sc_Hall_let_all_go.nd rfl (Or.inl rfl))
        (dss_one (ds_expr (de_meth T.Hall_ G_Hall_empty (hr.mono (by omega)) (de_var 0) (da_cons (de_var 2) da_nil)))))
      (dss_one (ds_expr (de_meth0 T.Hall_ G_Hall_work (hr.mono (by omega)) (de_var 0)))))), fun ds S q qx ⟨H, s, l, f, s', hd, R, W, G, hrow, nd, hin, hw, h⟩ => ?_⟩
  subst hd
  walk_at "dl"
  refine freshOf fun p hp => ?_
  have R0 := HTr.begun R hrow hp []
  have hh0 : put S p (.lst []) (H.a .hall) = _ := (put_ne (sto_ne (hrep_hall R) hp)).trans (hrep_hall R)
  walk_at "dl"
  refine fldsOf hh0 (Nat.le_of_ble_eq_true rfl) ?_
  rw [ha_row']
  have R0 : HTr CT CH en H s S { H with a := fun x => if x = .row then p else H.a x } (s.rowed (some [])) (put (put S p (.lst [])) (H.a .hall) (.ins CH H.dx (haFs (en.d fun i => H.a (.x i)) (.int (s.many : Int)) (.ref (H.a .th)) (.ref (H.a .lf)) (.ref p) (.int (s.lasts : Int))))) := R0
  generalize put (put S p (.lst [])) (H.a .hall) (.ins CH H.dx (haFs (en.d fun i => H.a (.x i)) (.int (s.many : Int)) (.ref (H.a .th)) (.ref (H.a .lf)) (.ref p) (.int (s.lasts : Int)))) = S1 at R0
  generalize ({ H with a := fun x => if x = .row then p else H.a x } : HA) = H1 at R0
  have tk : ∀ {i n : Nat}, l[i]? = some n → l.take (i + 1) = l.take i ++ [n] := fun h => by rw [List.take_add_one, h]; rfl
  have ndt : ∀ i, (l.take i).Nodup := fun i => nd.sublist (List.take_sublist i l)
  have tin : ∀ i, ∀ n ∈ l.take i, n ∈ (s.rowed (some [])).there := fun i n hn => hin n (List.mem_of_mem_take hn)
  have gn : ∀ i, Gns (s.rowed (some [])) ((s.rowed (some [])).gones (l.take i)) (l.take i) := fun i => gones_ok W.rowed0 (G.rowed _) (ndt i) (tin i)
  have nth : ∀ {i n : Nat}, l[i]? = some n → n ∉ l.take i := fun {i n} h z => by
    have := ndt (i + 1)
    rw [tk h] at this
    exact (List.nodup_append.mp this).2.2 n z n (List.mem_singleton.mpr rfl) rfl
  have hbd : ∀ n ∈ l, 1 ≤ n ∧ n ≤ s.many := fun n hn => W.tin n (hin n hn)
  walk_at "dl"
  refine forOf (fun i δ S' => ∃ z H', δ = [some (.ref (H.a .hall)), some (.list (refs H l)), z] ∧ HTr CT CH en H s S H' ((s.rowed (some [])).gones (l.take i)) S') ⟨_, H1, rfl, R0⟩ ?_ ?_
  · rintro i d δ S2 hi ⟨z, H2, rfl, T2⟩
    unfold refs at hi
    rw [List.getElem?_map] at hi
    obtain ⟨n, hn, rfl⟩ := Option.map_eq_some_iff.mp hi
    have hb := hbd n (List.mem_of_getElem? hn)
    walk_at "dl"
    refine needOf (methOf (x := .non) (by rw [← T2.hall]; exact hrep_hall T2.rep) rfl) ?_
    walk_at "dl"
    refine ⟨H2, _, n, by rw [T2.hall, T2.t hb.1 hb.2], T2.rep, (gn i).W, ((gn i).there n).mpr ⟨hin n (List.mem_of_getElem? hn), nth hn⟩, fun S3 T3 => ?_⟩
    walk_at "dl"
    refine ⟨_, H2, rfl, ?_⟩
    rw [tk hn, gones_snoc]
    exact T2.trans T3
  · rintro δ S2 ⟨z, H2, rfl, T2⟩
    have elen : (refs H l).length = l.length := by unfold refs; rw [List.length_map]
    rw [elen, List.take_length] at T2
    have gl := gn l.length
    rw [List.take_length] at gl
    have em : ∀ i, Ems ((s.rowed (some [])).gones l) (((s.rowed (some [])).gones l).empts (l.take i)) (l.take i) := fun i => empts_ok gl.W gl.G (ndt i) fun n hn => by rw [gl.rest]; exact List.mem_append_right _ (List.mem_of_mem_take hn)
    have hr0 : ((s.rowed (some [])).gones l).row ≠ none := by rw [gl.row]; exact nofun
    walk_at "dl"
    refine forOf (fun i δ S' => ∃ z H', δ = [some (.ref (H.a .hall)), some (.list (refs H l)), z] ∧ HTr CT CH en H s S H' (((s.rowed (some [])).gones l).empts (l.take i)) S') ⟨_, H2, rfl, T2⟩ ?_ ?_
    · rintro i d δ S3 hi ⟨z, H3, rfl, T3⟩
      unfold refs at hi
      rw [List.getElem?_map] at hi
      obtain ⟨n, hn, rfl⟩ := Option.map_eq_some_iff.mp hi
      have hb := hbd n (List.mem_of_getElem? hn)
      walk_at "dl"
      refine needOf (methOf (x := .non) (by rw [← T3.hall]; exact hrep_hall T3.rep) rfl) ?_
      walk_at "dl"
      refine ⟨H3, _, n, by rw [T3.hall, T3.t hb.1 hb.2], T3.rep, (em i).W, hb.1, by rw [(em i).many, gl.many]; exact hb.2, (em i).row hr0, fun S4 T4 => ?_⟩
      walk_at "dl"
      refine ⟨_, H3, rfl, ?_⟩
      rw [tk hn, empts_snoc]
      exact (T3.trans T4).trans (HTr.ghost T4.rep rfl rfl)
    · rintro δ S3 ⟨z, H3, rfl, T3⟩
      rw [elen, List.take_length] at T3
      have em := em l.length
      rw [List.take_length] at em
      walk_at "dl"
      refine needOf (methOf (x := .non) (by rw [← T3.hall]; exact hrep_hall T3.rep) rfl) ?_
      walk_at "dl"
      refine ⟨H3, _, f, s', by rw [T3.hall], T3.rep, em.W, hw, fun H4 S4 T4 => ?_⟩
      walk_at "dl"
      exact h H4 S4 (T3.trans T4)
end
end K

set_option Elab.async false
set_option linter.all false
set_option maxRecDepth 100000
namespace DL
open PySem L2 Evl EX
theorem lcNOf {δ : Dst} {k : DK} {de : DE} {gc : DGc} {t : DT} {ds : List D} {vs : List Nat} (P : Nat → List D → Prop) (hl : ds.length < 100000) (h0 : P 0 [])
    (hs : ∀ p, S p = none → ∀ n d acc, ds[n]? = some d → P n acc → gc d (wipeD δ vs) fun δ2 => t δ2 (put S p (.lst acc)) fun b S2 => branch b (de δ2 S2 (fun y S3 => LcO S p acc (P (n + 1) (acc ++ [y])) S3)) (LcO S p acc (P (n + 1) acc) S2) ⟨⟩) (hd : ∀ acc p, S p = none → P ds.length acc → k (.ref p) (put S p (.lst acc))) :
    lcNC ds gc t de vs δ S k ⟨⟩ := by
  refine ⟨hl, fun p hp => ⟨fun n acc S' => S' = S ∧ P n acc, ⟨rfl, h0⟩, ?_, ?_⟩⟩
  · rintro n d acc S' hd' _ ⟨rfl, hP⟩
    exact hs p hp n d acc hd' hP
  · rintro acc S' _ ⟨rfl, hP⟩
    exact hd acc p hp hP
theorem Rep.keep (R : Rep A C S) (h : ∀ l, C l ≠ none → S' (A l) = S (A l)) : Rep A C S' := ⟨fun {l o} e => by rw [h l (nn e)]; exact R.at_ e, R.inj⟩
end DL
namespace HM
open PySem L2 DL
def Sz (s : Hs) : Prop := msum (fun n => (ledP s n).length + 1) s.many ≤ 80000
theorem Sz.parts {s s' : Hs} (h : Sz s) (h1 : s'.parts = s.parts) (h2 : s'.many = s.many) : Sz s' := by
  unfold Sz ledP at *
  rw [h1, h2]
  exact h
end HM
namespace K
open PySem L2 Evl EX DL HM
section
variable {P : Program} {w : World} {K : PySem.W.Frag} {mg : Str → Option Value} {base : Heap} {CT CH CD : Addr} {en : Ed}
local macro_rules | `(tactic| walk_at "dl") => `(tactic| try simp only [↓x_lcN, ↓x_lcSN, ↓x_catM, ↓x_neV, ↓x_sortSet, ↓x_sortDLN, ↓x_lrg, ↓x_neg, ↓x_lcS, ↓x_lockE, ↓x_eqA, ↓x_dictD, ↓x_disp, ↓x_pNil, ↓x_pCons, ↓x_forS, ↓x_diSL, ↓x_diKeys, ↓x_lock, ↓x_dictP, ↓x_fld, ↓x_fldS, ↓x_fldA, ↓x_meth, ↓x_make, ↓x_dget, ↓x_din, ↓x_dget1, ↓x_dget2, ↓x_dpop, ↓x_dput, ↓x_listD, ↓x_sortDI, ↓x_lenD, ↓x_isiC, x_icS, x_icI, x_icB, x_icN, x_ioS, x_ioI, x_ioB, x_ioN, ↓x_gSub, ↓x_sortDL, ↓x_eqO, ↓x_ninA, x_catN, x_isBB, x_isBN, x_isBI, x_isBS, x_isBR, ↓x_seq, ↓x_nx, ↓x_pass, ↓x_brk, ↓x_cnt, ↓x_drop, ↓x_ret, ↓x_retN, ↓x_ifS, ↓x_set, ↓x_asg, ↓x_gN, ↓x_gT, ↓x_gsC, ↓x_gsN, ↓x_var, x_rdv, ↓x_c, ↓x_op, ↓x_test, x_tst, ↓x_and, ↓x_or, ↓x_not, ↓x_andV, ↓x_orV, ↓x_notV, x_tstV, ↓x_ifE, x_true, x_false, ↓x_nil, ↓x_cons, ↓x_tup, ↓x_lst, ↓x_new, ↓x_newD, ↓x_call, ↓x_cb, x_oI, x_oIc, x_oS, x_addS, x_isN, x_notN, x_eqI, x_eqS, x_eqIS, x_eqSI, x_eqNS, x_neI, x_neS, x_neB, x_eqB, x_few, x_need, ↓x_ix, x_lenS, x_ixL0, x_ixT0, x_ixT1, x_ixT2, x_ixT3, x_ixT4, x_lenL, x_lenT, x_lenC, x_listL, x_listT, x_tupL, x_tupT, x_strI, x_strS, x_int1, x_intB, x_I1, x_I2, x_cat, x_catT, ↓x_split, ↓x_for, ↓x_cut, ↓x_lc, ↓x_whl, ↓x_diL, ↓x_diT, ↓x_diS, x_itL, x_itC, x_itT, x_itS, ↓x_diR1, ↓x_diR2, ↓x_diE, x_enmL, x_enmC, ↓x_gcN, ↓x_gcT, ↓x_yes, ↓x_ml, ↓x_ms, x_strq, x_ss, x_ssc, x_ssi, ↓x_join, ↓x_aug, x_st2I, ↓x_sl, ↓x_noP, ↓x_part, x_intq, x_slL, x_slC, x_slS, ↓x_in, x_inT, x_inL, x_ninT, x_ninL, x_inN, x_inSS, x_inSI, x_inIS, x_inII, ↓x_sg, x_sgS, x_nsgS, ↓x_eqD, ↓x_inDD, x_mulS, ↓x_isi, x_isiS, x_isiI, x_isiB, x_isiN, x_isiL, x_isiT, ↓x_isTT, x_itI, x_itStr, x_itN, x_itB, x_itLst, x_itTup, ↓x_any, ↓x_all, ↓x_sum, ↓x_srtI, ↓x_srtS, ↓x_intS, ↓x_lenRf, ↓x_tupRf, ↓x_frz', x_flS, x_flI, x_flN, x_flB, x_cs_bool, x_isB_NoneType_bool, x_isB_bool_bool, x_isB_int_bool, x_isB_str_bool, x_isB_list_bool, x_isB_tuple_bool, x_isB_dict_bool, x_cs_int, x_isB_NoneType_int, x_isB_bool_int, x_isB_int_int, x_isB_str_int, x_isB_list_int, x_isB_tuple_int, x_isB_dict_int, x_cs_str, x_isB_NoneType_str, x_isB_bool_str, x_isB_int_str, x_isB_str_str, x_isB_list_str, x_isB_tuple_str, x_isB_dict_str, x_cs_list, x_isB_NoneType_list, x_isB_bool_list, x_isB_int_list, x_isB_str_list, x_isB_list_list, x_isB_tuple_list, x_isB_dict_list, x_cs_tuple, x_isB_NoneType_tuple, x_isB_bool_tuple, x_isB_int_tuple, x_isB_str_tuple, x_isB_list_tuple, x_isB_tuple_tuple, x_isB_dict_tuple, x_cs_dict, x_isB_NoneType_dict, x_isB_bool_dict, x_isB_int_dict, x_isB_str_dict, x_isB_list_dict, x_isB_tuple_dict, x_isB_dict_dict, List.all_cons, List.all_nil, Bool.and_self, Bool.or_false, Bool.or_true, Bool.false_or, Bool.true_or, wipeD, setD, DL.isNon, List.set_cons_zero, List.set_cons_succ, List.getElem?_cons_zero, List.getElem?_cons_succ, List.length_cons, List.length_nil, Nat.zero_add, List.cons_append, List.nil_append, decide_true, decide_false, Bool.not_true, Bool.not_false, true_and, and_true, startD, List.map_cons, List.map_nil, Nat.reduceSub, Nat.reduceLeDiff, Nat.zero_le, Int.reduceLT, Int.reduceLE, and_self, Nat.reduceAdd, List.replicate])
/-- values that stand around, beside a hall -/
structure Arnd (CT CH CD : Addr) (en : Ed) (H : HA) (s : Hs) (a dx l : Addr) (rs : List Vl) (S : Sto) : Prop where
  ea : S a = some (.ins CD dx (heFs (.ref l)))
  el : S l = some (.lst (rs.map (vD H)))
  na : ∀ x, hC CT CH en H s x ≠ none → a ≠ H.a x
  nl : ∀ x, hC CT CH en H s x ≠ none → l ≠ H.a x
theorem Arnd.step {H H' : HA} {s s' : Hs} {a dx l : Addr} {rs : List Vl} {S S' : Sto} (A : Arnd CT CH CD en H s a dx l rs S) (T : HTr CT CH en H s S H' s' S') (hr : ∀ v ∈ rs, VOk s.many v) : Arnd CT CH CD en H' s' a dx l rs S' := by
  have nw : ∀ b, S b ≠ none → (∀ x, hC CT CH en H s x ≠ none → b ≠ H.a x) → ∀ x, hC CT CH en H' s' x ≠ none → b ≠ H'.a x := fun b hb hn x hx z => by
    rcases T.tr.ext x hx with ⟨h1, h2⟩ | h1
    · exact hn x h1 (z.trans h2)
    · rw [← z] at h1; exact hb h1
  refine ⟨T.tr.other A.ea A.na, ?_, nw a (nn A.ea) A.na, nw l (nn A.el) A.nl⟩
  have e : rs.map (vD H') = rs.map (vD H) := List.map_congr_left fun v hv => by
    cases v with
    | no d => rfl
    | th n => have := hr _ hv; exact congrArg D.ref (T.t this.1 this.2)
  rw [e]
  exact T.tr.other A.el A.nl
def dSwept (CT CH CD : Addr) (en : Ed) (ask : AskR) : SpD := fun ds S k _ => ∃ (H : HA) (s : Hs) (a dx l : Addr) (rs : List Vl) (lost : List Nat) (s' : Hs), ds = [.ref (H.a .hall), .ref a] ∧ HRep CT CH en H s S ∧ Arnd CT CH CD en H s a dx l rs S ∧ Wf s ∧ Good s ∧ Cl s ∧ s.rest = [] ∧ (∀ i, s.ends.count i ≤ s.outer.count i) ∧
  (∀ v ∈ rs, VOk s.many v) ∧ rs.length ≤ 4000 ∧ Sz s ∧ (∀ l1 s1, AskAll ask (s.ups l1) l1 s1 → Sz s1) ∧ Swept ask rs s lost s' ∧ ∀ H' S' p, HTr CT CH en H s S H' s' S' → S' p = none → k (.ref p) (put S' p (.lst (lost.map fun n : Nat => .int (n : Int))))
theorem ok_swept {L : Nat} {ask : AskR} (KA : AskCl ask) (hL : 4 ≤ L) {fa : Addr} {fd : FuncData} (F : Fun K "swept" "swept" s_swept fa fd) (T : TxW K mg CT CH CD) (G_Hall_at_work : MDef P w K mg base 1 CH "at_work" ["self"] (lSp K (dAtWork CT CH en))) (G_Hall_things : MDef P w K mg base 1 CH "things" ["self"] (lSp K (dThings CT CH en)))
    (G_without : DefD P w K mg base 4 "without" ["hall", "things", "roots"] (dWithout CT CH en)) (G_Held_held : MDef P w K mg base 1 CD "held" ["self"] (lSp K (dHeld CD))) (G_Hall_hold : MDef P w K mg base 1 CH "hold" ["self", "value"] (lSp K (dHold CT CH en)))
    (G_Hall_ask_last : MDef P w K mg base L CH "ask_last" ["self", "thing"] (lSp K (dAsk CT CH en ask))) (G_others_there : DefD P w K mg base 4 "others_there" ["hall", "things"] (dOthers CT CH en)) (G_Hall_let_all_go : MDef P w K mg base (L + 3) CH "let_all_go" ["self", "things"] (lSp K (dAllGo CT CH en ask))) :
    FnOk P w K mg base CX0 (L + 4) fa fd ["hall", "around"] (lSp K (dSwept CT CH CD en ask)) := by
  refine dok F sc_swept (fun ds S q qx ⟨H, s, a, dx, l, rs, lost, s', h, _⟩ => by rw [h]; rfl) ⟨_, fun cdv A outer s H E hr => dss_cons (ds_if (dt_val (de_meth0 T.Hall_ G_Hall_at_work (hr.mono (by omega)) (de_var 0)))
        (dss_one (ds_ret (de_new (da_nil))))
        (dss_nil))
      (dss_cons (ds_set (i := 2) sc_swept.nd rfl (Or.inl rfl) (de_call G_without (hr.mono (by omega)) (by rfl) (da_cons (de_var 0) (da_cons (de_lc (own := [("number", 4)]) (gc_name (j := 4) (by decide)) rfl sc_swept.nd (di_list (K := K) (de_meth0 T.Hall_ G_Hall_things (hr.mono (by omega)) (de_var 0))) (blkOk_by (N := N_swept) (sc := defScope s_swept) (by decide +kernel)) (fun _ _ _ _ _ => pg_name (i := 4) sc_swept.nd rfl (Or.inl rfl)) (fun _ _ _ _ _ => dts_nil) (fun _ _ _ _ _ => de_dget (hu_of hr) (de_fld T.Hall_ (by decide +kernel) (de_var 0)) (de_var 4) (fun _ _ => rfl))) (da_cons (de_meth0 T.Held_ G_Held_held (hr.mono (by omega)) (de_var 1)) da_nil)))))
      (dss_cons (ds_for PassesOwn.never rfl (di_list (K := K) (de_var 2)) (dg_name (i := 3) sc_swept.nd rfl (Or.inl rfl))
        (dss_one (ds_expr (de_meth T.Hall_ G_Hall_hold (hr.mono (by omega)) (de_var 0) (da_cons (de_var 3) da_nil)))))
      (dss_cons (ds_for PassesOwn.never rfl (di_list (K := K) (de_var 2)) (dg_name (i := 3) sc_swept.nd rfl (Or.inl rfl))
        (dss_one (ds_expr (de_meth T.Hall_ G_Hall_ask_last (hr.mono (by omega)) (de_var 0) (da_cons (de_var 3) da_nil)))))
      (dss_cons (ds_for PassesOwn.never rfl (di_list (K := K) (de_var 2)) (dg_name (i := 3) sc_swept.nd rfl (Or.inl rfl))
        (dss_one (ds_fldaug T.Thing_ (by decide +kernel) (de_var 3) (de_int) in_sub)))
      (dss_cons (ds_set (i := 2) sc_swept.nd rfl (Or.inl rfl) (de_call G_without (hr.mono (by omega)) (by rfl) (da_cons (de_var 0) (da_cons (de_var 2) (da_cons (de_op op_cat si_cat (de_meth0 T.Held_ G_Held_held (hr.mono (by omega)) (de_var 1)) (de_call G_others_there (hr.mono (by omega)) (by rfl) (da_cons (de_var 0) (da_cons (de_var 2) da_nil)))) da_nil)))))
      (dss_cons (ds_expr (de_meth T.Hall_ G_Hall_let_all_go (hr.mono (by omega)) (de_var 0) (da_cons (de_var 2) da_nil)))
      (dss_one (ds_ret (de_lcN (own := [("thing", 3)]) (gc_name (j := 3) (by decide)) rfl sc_swept.nd (di_list (K := K) (de_var 2)) (blkOk_by (N := N_swept) (sc := defScope s_swept) (by decide +kernel)) (fun _ _ _ _ _ => pg_name (i := 3) sc_swept.nd rfl (Or.inl rfl)) (fun _ _ _ _ _ => dts_nil) (fun _ _ _ _ _ => de_fld T.Thing_ (by decide +kernel) (de_var 3))))))))))), fun ds S q qx ⟨H, s, a, dx, l, rs, lost, s', hd, R, Ar, W, G, C, hrest, heb, hrs, hrl, hsz, hszA, hsw, h⟩ => ?_⟩
  subst hd
  walk_at "dl"
  refine needOf (methOf (x := .non) (hrep_hall R) rfl) ?_
  walk_at "dl"
  refine ⟨H, s, rfl, R, ?_⟩
  cases hsw with
  | busy hb =>
    have e : (decide (0 < s.lasts) || s.row.isSome) = true := by
      rcases hb with hb | hb
      · rw [decide_eq_true hb]; rfl
      · rw [Option.isSome_iff_ne_none.mpr hb, Bool.or_true]
    rw [e]
    walk_at "dl"
    exact freshOf fun p hp => h H S p (HTr.refl R) hp
  | mk l0 r0 L0 AA L1 ht W1 =>
    rename_i s1 lost0 f
    have e : (decide (0 < s.lasts) || s.row.isSome) = false := by rw [l0, r0]; rfl
    rw [e]
    walk_at "dl"
    refine needOf (methOf (x := .non) (hrep_hall R) rfl) ?_
    walk_at "dl"
    refine ⟨H, s, rfl, R, W, fun ys hp hs => ?_⟩
    obtain ⟨ns, rfl, hpn, hsn⟩ := perm_nats hp hs W.nd
    have hnl : ns.length ≤ 5000 := by
      have := hpn.length_eq
      have := W.len
      have := W.most
      omega
    rw [List.map_map]
    walk_at "dl"
    refine lcOf (fun i acc => acc = refs H (ns.take i)) (by rw [List.length_map]; omega) rfl ?_ ?_
    · rintro pl hpl i d acc hi rfl
      rw [List.getElem?_map] at hi
      obtain ⟨n, hn, rfl⟩ := Option.map_eq_some_iff.mp hi
      have hnt : n ∈ s.there := hpn.mem_iff.mp (List.mem_of_getElem? hn)
      have kp3 : Kpt S (put S pl (.lst (refs H (ns.take i)))) := Kpt.refl.put hpl _
      have R3 := (Kpt.tr R kp3).rep
      show gcN _ (.int (n : Int)) _ _
      walk_at "dl"
      refine fldOf (hrep_hall R3) ha_there ?_
      walk_at "dl"
      refine dgetOf (hrep_th R3) rfl (there_get hnt) ?_
      refine LcO.of hpl ?_
      rw [List.take_add_one, hn]
      unfold refs
      rw [List.map_append]
      rfl
    · rintro acc rfl
      rw [List.length_map, List.take_length]
      walk_at "dl"
      refine needOf (methOf (x := .non) Ar.ea rfl) ?_
      walk_at "dl"
      refine ⟨a, dx, l, _, rfl, Ar.ea, Ar.el, ?_⟩
      walk_at "dl"
      have hin : ∀ n ∈ ns, n ∈ s.there := fun n hn => hpn.mem_iff.mp hn
      refine ⟨H, s, ns, rs, rfl, R, W, C.ow, fun n hn => W.tin n (hin n hn), hnl, hrs, by have : msum (fun n => (ledP s n).length + 1) s.many ≤ 80000 := hsz; omega, fun p S1 kp1 hpp => ?_⟩
      have el0 : ns.filter p = lost0 := lost_uniq (s := s) (base := (· ∈ s.there)) (rs := rs) ⟨hsn.filter p, fun n => by rw [List.mem_filter, hpn.mem_iff, hpp]⟩ L0
      rw [el0]
      have hlin : ∀ n ∈ lost0, n ∈ s.there := fun n hn => ((L0.mem n).mp hn).1
      have hlb : ∀ n ∈ lost0, 1 ≤ n ∧ n ≤ s.many := fun n hn => W.tin n (hlin n hn)
      have nd0 : lost0.Nodup := L0.srt.imp fun h e => by omega
      have hll : lost0.length ≤ 5000 := by have h1 := perm_len nd0 hlb; have h2 := W.most; omega
      have T1 := Kpt.tr R kp1
      have tk : ∀ {i n : Nat}, lost0[i]? = some n → lost0.take (i + 1) = lost0.take i ++ [n] := fun h => by rw [List.take_add_one, h]; rfl
      walk_at "dl"
      refine forOf (fun i δ S' => ∃ z H', δ = [some (.ref (H.a .hall)), some (.ref a), some (.list (refs H lost0)), z, none] ∧ HTr CT CH en H s S H' (s.ups (lost0.take i)) S') ⟨_, H, rfl, T1⟩ ?_ ?_
      · rintro i d δ S2 hi ⟨z, H2, rfl, T2⟩
        unfold refs at hi
        rw [List.getElem?_map] at hi
        obtain ⟨n, hn, rfl⟩ := Option.map_eq_some_iff.mp hi
        have hb := hlb n (List.mem_of_getElem? hn)
        obtain ⟨u1, u2, u3, u4, u5, _⟩ := ups_rest (lost0.take i) s
        walk_at "dl"
        refine needOf (methOf (x := .non) (by rw [← T2.hall]; exact hrep_hall T2.rep) rfl) ?_
        walk_at "dl"
        refine ⟨H2, _, .th n, by rw [T2.hall]; show _ = [_, D.ref (H2.a (.t n))]; rw [T2.t hb.1 hb.2], T2.rep, (show 1 ≤ n ∧ n ≤ (s.ups (lost0.take i)).many by rw [u5]; exact hb), fun S3 T3 => ?_⟩
        walk_at "dl"
        refine ⟨_, H2, rfl, ?_⟩
        rw [tk hn, ups_snoc]
        exact (T2.trans T3).trans (HTr.ghost T3.rep rfl rfl)
      · rintro δ S2 ⟨z, H2, rfl, T2⟩
        have elen : (refs H lost0).length = lost0.length := by unfold refs; rw [List.length_map]
        rw [elen, List.take_length] at T2
        obtain ⟨u1, u2, u3, u4, u5, u6, u7, u8, u9, u10⟩ := ups_rest lost0 s
        have gu : Good (s.ups lost0) := G.ups fun n hn => (hlb n hn).2
        have cu : Cl (s.ups lost0) := C.congr u1 u2 (fun n h => by rw [u3]; exact h) u6 u5
        walk_at "dl"
        refine forOf (fun i δ S' => ∃ z H' si, δ = [some (.ref (H.a .hall)), some (.ref a), some (.list (refs H lost0)), z, none] ∧ HTr CT CH en H s S H' si S' ∧ Wf si ∧ AskAll ask si (lost0.drop i) s1) ⟨_, H2, _, rfl, T2, W.ups, AA⟩ ?_ ?_
        · rintro i d δ S3 hi ⟨z, H3, si, rfl, T3, W3, A3⟩
          unfold refs at hi
          rw [List.getElem?_map] at hi
          obtain ⟨n, hn, rfl⟩ := Option.map_eq_some_iff.mp hi
          have hb := hlb n (List.mem_of_getElem? hn)
          have edr : lost0.drop i = n :: lost0.drop (i + 1) := by
            obtain ⟨h1, h2⟩ := List.getElem?_eq_some_iff.mp hn
            rw [List.drop_eq_getElem_cons h1, h2]
          rw [edr] at A3
          cases A3 with
          | cons hnt ha A4 =>
            rename_i sj
            walk_at "dl"
            refine needOf (methOf (x := .non) (by rw [← T3.hall]; exact hrep_hall T3.rep) rfl) ?_
            walk_at "dl"
            refine ⟨H3, si, n, sj, by rw [T3.hall, T3.t hb.1 hb.2], T3.rep, W3, hnt, ha, fun H4 S4 T4 => ?_⟩
            walk_at "dl"
            exact ⟨_, H4, sj, rfl, T3.trans T4, KA.good.ok.wf ha W3 hnt, A4⟩
        · rintro δ S3 ⟨z, H3, si, rfl, T3, W3, A3⟩
          rw [elen, List.drop_length] at A3
          cases A3
          obtain ⟨w1, g1, c1, e1, e2, e3, e4, e5⟩ := AA.keep KA W.ups gu cu
          rw [u5] at e4
          have hlb1 : ∀ n ∈ lost0, 1 ≤ n ∧ n ≤ s1.many := fun n hn => by have := hlb n hn; omega
          walk_at "dl"
          refine forOf (fun i δ S' => ∃ z H', δ = [some (.ref (H.a .hall)), some (.ref a), some (.list (refs H lost0)), z, none] ∧ HTr CT CH en H s S H' (s1.downs (lost0.take i)) S') ⟨_, H3, rfl, T3⟩ ?_ ?_
          · rintro i d δ S4 hi ⟨z, H4, rfl, T4⟩
            unfold refs at hi
            rw [List.getElem?_map] at hi
            obtain ⟨n, hn, rfl⟩ := Option.map_eq_some_iff.mp hi
            have hb := hlb n (List.mem_of_getElem? hn)
            have hb1 : 1 ≤ n ∧ n ≤ (s1.downs (lost0.take i)).many := by rw [(downs_rest (lost0.take i) s1).2.2.2.2.1]; exact hlb1 n (List.mem_of_getElem? hn)
            have et := hrep_t T4.rep hb1.1 hb1.2
            rw [T4.t hb.1 hb.2] at et
            walk_at "dl"
            refine fldOf et th_count ?_
            walk_at "dl"
            refine fldsOf et (Nat.le_of_ble_eq_true rfl) ?_
            rw [th_count']
            have T5 := HTr.cnt T4.rep hb1.1 hb1.2 ((s1.downs (lost0.take i)).cnt n - 1)
            rw [T4.t hb.1 hb.2] at T5
            walk_at "dl"
            refine ⟨_, H4, rfl, ?_⟩
            rw [tk hn, downs_snoc]
            exact (T4.trans T5).trans (HTr.ghost T5.rep rfl rfl)
          · rintro δ S4 ⟨z, H4, rfl, T4⟩
            rw [elen, List.take_length] at T4
            obtain ⟨d1, d2, d3, d4, d5, d6, d7, d8, d9⟩ := downs_rest lost0 s1
            have wd := w1.downs (l := lost0)
            have gd : Good (s1.downs lost0) := g1.downs nd0 fun n hn => List.count_pos_iff.mp (by
              have h1 := e5 n
              rw [u9, List.count_append, ups_ends] at h1
              have h2 := heb n
              have h3 := List.count_pos_iff.mpr hn
              omega)
            have cd : Cl (s1.downs lost0) := c1.congr d1 d2 (fun n h => by rw [d3]; exact h) d6 d5
            have Ar4 := Ar.step T4 hrs
            have er : refs H lost0 = refs H4 lost0 := by
              unfold refs
              exact List.map_congr_left fun n hn => by rw [T4.t (hlb n hn).1 (hlb n hn).2]
            have hlb4 : ∀ n ∈ lost0, 1 ≤ n ∧ n ≤ (s1.downs lost0).many := fun n hn => by rw [d5]; exact hlb1 n hn
            walk_at "dl"
            refine needOf (methOf (x := .non) Ar4.ea rfl) ?_
            walk_at "dl"
            refine ⟨a, dx, l, _, rfl, Ar4.ea, Ar4.el, ?_⟩
            walk_at "dl"
            refine ⟨H4, _, lost0, by rw [T4.hall, er], T4.rep, wd, hlb4, hll, fun o S5 kp5 ho hol => ?_⟩
            have T5 := T4.trans (Kpt.tr T4.rep kp5)
            walk_at "dl"
            have ol : ((rs.map (vD H4)).length + (refs H4 o).length) ≤ 9000 := by unfold refs; rw [List.length_map, List.length_map]; omega
            refine fewOf (by omega) ?_
            have erl : rs.map (vD H4) ++ refs H4 o = (rs ++ o.map Vl.th).map (vD H4) := by unfold refs; rw [List.map_append, List.map_map]; rfl
            have hszd : Sz (s1.downs lost0) := (hszA lost0 s1 AA).parts d2 d5
            have hrs4 : ∀ v ∈ rs ++ o.map Vl.th, VOk (s1.downs lost0).many v := fun v hv => by
              rcases List.mem_append.mp hv with hv | hv
              · have h1 := hrs v hv
                cases v with
                | no d => exact h1
                | th n => have h1 : 1 ≤ n ∧ n ≤ s.many := h1; exact (show 1 ≤ n ∧ n ≤ (s1.downs lost0).many by rw [d5]; omega)
              · obtain ⟨n, hn, rfl⟩ := List.mem_map.mp hv
                exact wd.tin n ((ho n).mp hn).1
            refine ⟨H4, _, lost0, rs ++ o.map Vl.th, by rw [T4.hall, er, erl], T5.rep, wd, cd.ow, hlb4, hll, hrs4, by
              have h1 : msum (fun n => (ledP (s1.downs lost0) n).length + 1) (s1.downs lost0).many ≤ 80000 := hszd
              have h2 : (rs ++ o.map Vl.th).length ≤ 9000 := by rw [List.length_append, List.length_map]; unfold refs at ol; rw [List.length_map, List.length_map] at ol; exact ol
              omega, fun p S6 kp6 hpp => ?_⟩
            have hmem : ∀ n, Vl.th n ∈ rs ++ o.map Vl.th ↔ Vl.th n ∈ rs ++ (others (s1.downs lost0) lost0).map Vl.th := fun n => by
              rw [List.mem_append, List.mem_append]
              refine or_congr Iff.rfl ?_
              rw [List.mem_map, List.mem_map]
              have hh : ∀ n, n ∈ o ↔ n ∈ others (s1.downs lost0) lost0 := fun n => by
                unfold others
                rw [ho, List.mem_filter, decide_eq_true_iff]
              exact ⟨fun ⟨m, h1, h2⟩ => ⟨m, (hh m).mp h1, h2⟩, fun ⟨m, h1, h2⟩ => ⟨m, (hh m).mpr h1, h2⟩⟩
            have el1 : lost0.filter p = lost := lost_uniq (s := s1.downs lost0) (base := (· ∈ lost0)) (rs := rs ++ (others (s1.downs lost0) lost0).map Vl.th) ⟨L0.srt.filter p, fun n => by
              rw [List.mem_filter, hpp]
              exact and_congr Iff.rfl (not_congr ⟨fun h => h.mono (fun n => (hmem n).mp) fun _ _ h => h, fun h => h.mono (fun n => (hmem n).mpr) fun _ _ h => h⟩)⟩ L1
            rw [el1]
            have T6 := T5.trans (Kpt.tr T5.rep kp6)
            have hl1 : ∀ n ∈ lost, n ∈ lost0 := fun n hn => ((L1.mem n).mp hn).1
            have nd1 : lost.Nodup := L1.srt.imp fun h e => by omega
            walk_at "dl"
            refine needOf (methOf (x := .non) (by rw [← T6.hall]; exact hrep_hall T6.rep) rfl) ?_
            walk_at "dl"
            refine ⟨H4, _, lost, f, s', by rw [T6.hall], T6.rep, wd, gd, by rw [d4, e3, u4]; exact r0, nd1, fun n hn => by rw [d1]; exact ht n (hl1 n hn), W1, fun H7 S7 T7 => ?_⟩
            have T8 := T6.trans T7
            have em : s.many ≤ s'.many := T8.many
            walk_at "dl"
            refine lcNOf (fun i acc => acc = (lost.take i).map fun n : Nat => .int (n : Int)) (by unfold refs; rw [List.length_map]; have h1 := perm_len nd1 fun n hn => hlb n (hl1 n hn); have h2 := W.most; omega) rfl ?_ ?_
            · rintro pl hpl i d acc hi rfl
              unfold refs at hi
              rw [List.getElem?_map] at hi
              obtain ⟨n, hn, rfl⟩ := Option.map_eq_some_iff.mp hi
              have hb := hlb n (hl1 n (List.mem_of_getElem? hn))
              have kp9 : Kpt S7 (put S7 pl (.lst ((lost.take i).map fun n : Nat => .int (n : Int)))) := Kpt.refl.put hpl _
              have et := hrep_t (Kpt.tr T8.rep kp9).rep (n := n) hb.1 (by omega)
              rw [T8.t hb.1 hb.2] at et
              rw [T6.t hb.1 hb.2]
              walk_at "dl"
              refine fldOf et th_number ?_
              refine LcO.of hpl ?_
              rw [List.take_add_one, hn, List.map_append]
              rfl
            · rintro acc pv hpv rfl
              unfold refs
              rw [List.length_map, List.take_length]
              exact h H7 S7 pv T8 hpv
end
end K

set_option Elab.async false
set_option linter.all false
set_option maxRecDepth 100000
/-! ### x in l, l.remove(x), l a list of instances of one class without an __eq__ -/
namespace L2
open PySem PySem.Spec PyProof.Rows PySem.SeqAt Evl EX DL
theorem refs_of_vals : ∀ {as : List Addr} {us : List Value}, Vals (as.map V.ref) us → us = as.map Value.ref
  | [], us, h => by cases h; rfl
  | a :: as, us, h => by
    cases h with
    | cons h1 h2 =>
      have e := (show _ = Value.ref a from h1)
      rw [e, refs_of_vals h2]
      rfl
theorem eq_inst {K : PySem.W.Frag} {X : Cx} {C : Addr} (hC : EqC K C) (hu : X.A.units + 65 < cLine) (hk : X.K = K) {pins : List (Addr × Obj)} {σ : St} {H : Hp} {s : Shared} (I : Inv X pins σ H s) {a b : Addr} {dx dy : Addr} {fs gs : List (Str × V)} (ha : H a = some (.ins C dx fs)) (hb : H b = some (.ins C dy gs)) : EqAt X.A.in1 s (.ref a) (.ref b) (decide (a = b)) := by
  subst hk
  by_cases e : a = b
  · subst e
    rw [decide_eq_true rfl]
    exact EqAt.same _
  · rw [decide_eq_false e]
    obtain ⟨mA, O, _⟩ := ins_get I.hok ha
    obtain ⟨od, J, _⟩ := O.look
    obtain ⟨mB, O2, _⟩ := ins_get I.hok hb
    obtain ⟨oe, J2, _⟩ := O2.look
    refine EqAt.of_refs e (OE.rcO (by show X.A.units + 1 < cLine; omega) I.kIn J J2 e hC.hm hC.hs)
def rInO (K : PySem.W.Frag) (C : Addr) (neg : Bool) : R2 := fun x y H Q => ∃ (k l : Addr) (as : List Addr), x = .ref k ∧ y = .ref l ∧ SqL K H l (as.map V.ref) ∧ (∃ dx fs, H k = some (.ins C dx fs)) ∧ (∀ a ∈ as, ∃ dx fs, H a = some (.ins C dx fs)) ∧ Q (.bl (if neg then !decide (k ∈ as) else decide (k ∈ as))) H
theorem any_refs {k : Addr} : ∀ {as : List Addr}, ((as.map Value.ref).toArray.any fun y => match y with | .ref a => decide (a = k) | _ => false) = decide (k ∈ as) := by
  intro as
  rw [← Array.any_toList, List.any_map]
  induction as with
  | nil => rfl
  | cons a as ih =>
    rw [List.any_cons, ih]
    show (decide (a = k) || _) = _
    rw [Bool.eq_iff_iff]
    simp only [Bool.or_eq_true, decide_eq_true_eq, List.mem_cons]
    exact or_congr ⟨Eq.symm, Eq.symm⟩ Iff.rfl
theorem op_inO {K : PySem.W.Frag} {X : Cx} {C : Addr} (hC : EqC K C) (hu : X.A.units + 65 < cLine) (hk : X.K = K := by rfl) : OpR X (compareOp .In) (rInO K C false) := by
  intro pins s σ H x y v u Q I rx ry h
  obtain ⟨k, l, as, rfl, rfl, hl, ⟨dx, fs, hk'⟩, has, q⟩ := h
  cases (show v = Value.ref k from rx)
  cases (show u = Value.ref l from ry)
  obtain ⟨its, r, p, _⟩ := I.list (hk ▸ hl)
  cases refs_of_vals r
  refine in_listAt (fun y => match y with | .ref a => decide (a = k) | _ => false) p.isList (fun y hy => ?_) ?_
  · obtain ⟨a, ha, rfl⟩ := List.mem_map.mp (by simpa using hy : y ∈ as.map Value.ref)
    obtain ⟨dy, gs, hH⟩ := has a ha
    exact eq_inst hC hu hk I hH hk'
  · rw [any_refs]
    exact ⟨.bl _, H, I, rfl, q⟩
theorem erase_mapA : ∀ (l : List Addr) (j : Nat), (l.map V.ref).eraseIdx j = (l.eraseIdx j).map V.ref
  | [], j => by simp
  | a :: r, 0 => by simp
  | a :: r, j + 1 => by
    have ih := erase_mapA r j
    simp [ih]
def rRemO (C : Addr) : V → List V → Hp → VK → Prop := fun x xs H Q => ∃ (l : Addr) (as : List Addr) (k : Addr) (j : Nat), x = .ref l ∧ xs = [.ref k] ∧ H l = some (.lst (as.map V.ref)) ∧ (∃ dx fs, H k = some (.ins C dx fs)) ∧ (∀ a ∈ as, ∃ dx fs, H a = some (.ins C dx fs)) ∧ as[j]? = some k ∧ (∀ m : Nat, m < j → as[m]? ≠ some k) ∧ Q .non (upd H l (.lst ((as.eraseIdx j).map V.ref)))
theorem mt_removeO {K : PySem.W.Frag} {X : Cx} {C : Addr} (hC : EqC K C) (hu : X.A.units + 65 < cLine) (hk : X.K = K := by rfl) : MtM X "list.remove" (rRemO C) := by
  intro pins s σ H x xs v us Q I rx rxs h
  obtain ⟨l, as, k, j, rfl, rfl, hH, ⟨dx, fs, hk'⟩, has, hj, hno, q⟩ := h
  cases rx
  obtain ⟨u, rfl, ru⟩ := rxs.one
  cases (show u = Value.ref k from ru)
  obtain ⟨z, its, n, r, hl, e⟩ := I.lstM hH
  cases refs_of_vals r
  rw [List.length_map] at hl z
  have hjn : j < as.length := (List.getElem?_eq_some_iff.mp hj).1
  have hjl : j < (as.map Value.ref).toArray.size := by rw [List.size_toArray, List.length_map]; omega
  refine call_meets PySem.F.slot_list_remove ⟨_, e, rfl⟩ PySem.F.entry_list_remove (PySem.F.args_list_remove_2 _ _)
    (list_removeAt l _ n _ _ (.ref k) (fun y => match y with | .ref a => decide (a = k) | _ => false) j hjl ?_ ?_ (by rw [List.size_toArray, List.length_map]; omega)) ⟨e, fun y hy => ?_, ?_⟩
  · have : as[j] = k := (List.getElem?_eq_some_iff.mp hj).2
    simp [this]
  · intro m hm hmj
    have hmn : m < as.length := by omega
    have h1 := hno m hmj
    rw [List.getElem?_eq_getElem hmn] at h1
    have : as[m] ≠ k := fun e => h1 (by rw [e])
    simp [this]
  · obtain ⟨a, ha, rfl⟩ := List.mem_map.mp (by simpa using hy : y ∈ as.map Value.ref)
    obtain ⟨dy, gs, hH⟩ := has a ha
    exact eq_inst hC hu hk I hH hk'
  · have rr := r.eraseIdx j
    have em : (as.map V.ref).eraseIdx j = (as.eraseIdx j).map V.ref := erase_mapA as j
    rw [em] at rr
    refine ⟨.non, _, I.lset (its' := (as.map Value.ref).eraseIdx j) (t' := s.toks) hH e ?_ rr ?_, rfl, q⟩
    · show (as.map Value.ref).toArray.eraseIdxIfInBounds j = ((as.map Value.ref).eraseIdx j).toArray
      rw [List.eraseIdxIfInBounds_toArray]
    · have := List.length_eraseIdx_le as j
      rw [List.length_map]
      omega
end L2
namespace DL
open PySem L2 Evl EX
/-- instances of one class -/
def InsAll (S : Sto) (C : Addr) (as : List Addr) : Prop := ∀ a ∈ as, ∃ dx fs, S a = some (.ins C dx fs)
theorem InsAll.rd {K : PySem.W.Frag} {B H : Hp} {S : Sto} {C : Addr} {as : List Addr} (h : InsAll S C as) (r : R K B S H) : ∀ a ∈ as, ∃ dx fs, H a = some (.ins C dx fs) := fun a ha => by
  obtain ⟨dx, gs, e⟩ := h a ha
  obtain ⟨_, ho, h1, h2⟩ := r.own a _ e
  cases h2 with
  | ins _ => exact ⟨dx, _, h1⟩
theorem rdl_refs {K : PySem.W.Frag} {B : Hp} : ∀ {as : List Addr} {xs : List V}, RdL K B xs (as.map D.ref) → xs = as.map V.ref
  | [], _, h => by cases h; rfl
  | a :: as, _, h => by
    cases h with
    | cons h1 h2 => rw [rd_ref h1, rdl_refs h2]; rfl
def oInO (C : Addr) (neg : Bool) : DR2 := fun x y S k => ∃ (a : Addr) (as : List Addr), x = .ref a ∧ LstAt S y (as.map D.ref) ∧ InsAll S C (a :: as) ∧ k (.bl (if neg then !decide (a ∈ as) else decide (a ∈ as))) S
theorem si_inO {K : PySem.W.Frag} {C : Addr} (neg : Bool) : Sim2 K (rInO K C neg) (oInO C neg) := fun B S H v w x y k Q r rx ry h1 q => by
  obtain ⟨a, as, rfl, hl, hi, h1⟩ := h1
  obtain ⟨p, xs, rfl, hp, rl⟩ := lstAt_ok hl r ry
  cases rdl_refs rl
  have hr := hi.rd r
  exact ⟨a, p, as, rd_ref rx, rfl, sq_of hp, hr a (List.mem_cons_self ..), fun b hb => hr b (List.mem_cons_of_mem _ hb), q _ S _ B H h1 (Ex.refl B) r (.bl _)⟩
def oRemO (C : Addr) : DM := fun x xs S k => match xs with
  | [.ref a] => ∃ (l : Addr) (as : List Addr), x = .ref l ∧ S l = some (.lst (as.map D.ref)) ∧ InsAll S C as ∧ a ∈ as ∧ k .non (put S l (.lst ((as.erase a).map D.ref)))
  | _ => False
theorem rem_atA {a : Addr} : ∀ {as : List Addr}, a ∈ as → ∃ j : Nat, as[j]? = some a ∧ (∀ m : Nat, m < j → as[m]? ≠ some a) ∧ as.eraseIdx j = as.erase a
  | [], h => by cases h
  | b :: as, h => by
    by_cases e : b = a
    · subst e
      exact ⟨0, rfl, fun m hm => absurd hm (Nat.not_lt_zero m), by simp⟩
    · obtain ⟨j, h1, h2, h3⟩ := rem_atA ((List.mem_cons.mp h).resolve_left (Ne.symm e))
      refine ⟨j + 1, by simpa using h1, fun m hm => ?_, ?_⟩
      · cases m with
        | zero => simpa using e
        | succ m => simpa using h2 m (by omega)
      · rw [List.eraseIdx_cons_succ, h3, List.erase_cons, if_neg (by simpa using e)]
theorem rdl_refsI {K : PySem.W.Frag} {B : Hp} : ∀ as : List Addr, RdL K B (as.map V.ref) (as.map D.ref)
  | [] => .nil
  | a :: as => .cons (.ref a) (rdl_refsI as)
theorem si_remO {K : PySem.W.Frag} {C : Addr} : SimM K (rRemO C) (oRemO C) := fun B S H v x vs xs k Q r rx rl h1 q => by
  unfold oRemO at h1
  split at h1
  · obtain ⟨w, rfl, rw'⟩ := rdl1 rl
    obtain ⟨l, as, rfl, hs, hi, hn, h1⟩ := h1
    obtain ⟨ys, ha, rr⟩ := r.lst hs
    cases rdl_refs rr
    cases rd_ref rx
    cases rd_ref rw'
    obtain ⟨j, j1, j2, j3⟩ := rem_atA hn
    have hr := hi.rd r
    refine ⟨_, as, _, j, rfl, rfl, ha, hr _ hn, hr, j1, j2, ?_⟩
    rw [j3]
    exact q _ _ _ B _ h1 (Ex.refl B) (r.mut hs (.lst (rdl_refsI _))) .non
  · exact h1.elim
section
variable {x y : D} {S : Sto} {k : DK} {C a l : Addr} {as : List Addr}
theorem x_inO {neg : Bool} : oInO C neg x y S k = st2 (oInO C neg) x y S k ⟨⟩ := propext Iff.rfl
theorem inOOf (hl : LstAt S y (as.map D.ref)) (hi : InsAll S C (a :: as)) (q : k (.bl (decide (a ∈ as))) S) : st2 (oInO C false) (.ref a) y S k ⟨⟩ := ⟨a, as, rfl, hl, hi, q⟩
theorem remOOf (hl : S l = some (.lst (as.map D.ref))) (hi : InsAll S C as) (ha : a ∈ as) (q : k .non (put S l (.lst ((as.erase a).map D.ref)))) : stM (oRemO C) (.ref l) [.ref a] S k ⟨⟩ := ⟨l, as, rfl, hl, hi, ha, q⟩
end
end DL

set_option Elab.async false
set_option linter.all false
set_option maxRecDepth 100000
/-! ### enders that do planned deeds (no program in sight) -/
namespace HM
open PySem L2 DL
theorem cnt_app (l : List Nat) (n i : Nat) : (l ++ [n]).count i = l.count i + if i = n then 1 else 0 := by
  rw [List.count_append]
  congr 1
  by_cases z : i = n
  · subst z; simp
  · rw [if_neg z, List.count_eq_zero_of_not_mem (by simpa using z)]
theorem cnt_erase {l : List Nat} {n : Nat} (h : n ∈ l) (i : Nat) : (l.erase n).count i + (if i = n then 1 else 0) = l.count i := by
  by_cases z : i = n
  · subst z
    have := List.count_pos_iff.mpr h
    rw [List.count_erase_self, if_pos rfl]
    omega
  · rw [List.count_erase_of_ne z, if_neg z]; rfl
def Kk (s : Hs) : Prop := ∀ n, ∀ kv ∈ s.parts n, kv.1 ∈ _root_.K.K6
/-- how a state goes on -/
structure Ev (s s' : Hs) : Prop where
  base : s'.base = s.base
  many : s.many ≤ s'.many
  bal : ∀ i, s'.outer.count i + s.ends.count i = s.outer.count i + s'.ends.count i
  rest : s'.rest = s.rest
  lasts : s'.lasts = s.lasts
  mine : s'.mine = s.mine
  asked : ∃ l, s'.asked = s.asked ++ l
  stay : ∀ i ∈ s.there, s.ends.count i < s.outer.count i → i ∈ s'.there
  cl : Cl s → Cl s'
  kk : Kk s → Kk s'
theorem Ev.refl (s : Hs) : Ev s s := ⟨rfl, Nat.le_refl _, fun _ => rfl, rfl, rfl, rfl, ⟨[], (List.append_nil _).symm⟩, fun _ h _ => h, fun h => h, fun h => h⟩
theorem Ev.trans {a b c : Hs} (x : Ev a b) (y : Ev b c) : Ev a c := by
  obtain ⟨l, hl⟩ := x.asked
  obtain ⟨r, hr⟩ := y.asked
  exact ⟨y.base.trans x.base, Nat.le_trans x.many y.many, fun i => by have := x.bal i; have := y.bal i; omega, y.rest.trans x.rest, y.lasts.trans x.lasts, y.mine.trans x.mine, ⟨l ++ r, by rw [hr, hl, List.append_assoc]⟩,
    fun i h1 h2 => y.stay i (x.stay i h1 h2) (by have := x.bal i; omega), fun h => y.cl (x.cl h), fun h => y.kk (x.kk h)⟩
/-- holds of the ender's own are among those from outside -/
def Slk (s : Hs) : Prop := ∀ i, s.ends.count i ≤ s.outer.count i
theorem Ev.slk {s s' : Hs} (e : Ev s s') (h : Slk s) : Slk s' := fun i => by have := e.bal i; have := h i; omega
/-- when a last may be asked -/
structure Gd (s : Hs) (n : Nat) : Prop where
  W : Wf s
  G : Good s
  there : n ∈ s.there
  sl : Slk s
  own : s.ends.count n < s.outer.count n
structure AskE (ask : AskR) : Prop where
  gd : ∀ {s n s'}, ask s n s' → Gd s n
  W : ∀ {s n s'}, ask s n s' → Wf s'
  G : ∀ {s n s'}, ask s n s' → Good s'
  ev : ∀ {s n s'}, ask s n s' → Ev s s'
  row : ∀ {s n s'}, ask s n s' → s'.row = s.row
  waits : ∀ {s n s'}, ask s n s' → s'.waits = s.waits
section
variable {ask : AskR} (K : AskE ask)
include K
theorem AskE.ok : AskOk ask := ⟨fun h _ _ => K.W h, K.row, K.waits, fun h => (K.ev h).many, fun h i => (K.ev h).stay _ i (K.gd h).own⟩
theorem AskE.good : AskGood ask := ⟨K.ok, fun h _ _ _ => K.G h, fun {s n s'} h i => List.count_pos_iff.mp (by have := (K.ev h).bal n; have := (K.gd h).own; omega)⟩
theorem AskE.acl : AskCl ask := ⟨K.good, fun h _ _ _ c => (K.ev h).cl c, fun h _ _ _ => (K.ev h).rest, fun h => (K.ev h).lasts, fun h => (K.ev h).bal⟩
end
theorem kk_emptied {n : Nat} (l : List (Key × Vl)) (s : Hs) (hl : s.parts n = l) (h : Kk s) : Kk (s.emptied n l) := fun i kv hk => by
  obtain ⟨p1, p2⟩ := emptied_parts (n := n) l s hl
  by_cases z : i = n
  · subst z; rw [p1] at hk; cases hk
  · rw [p2 i z] at hk; exact h i kv hk
theorem emptied_more {n : Nat} : ∀ (l : List (Key × Vl)) (s : Hs), (s.emptied n l).ends = s.ends ∧ (s.emptied n l).asked = s.asked ∧ (s.emptied n l).outer = s.outer ∧ (s.emptied n l).mine = s.mine ∧ (s.emptied n l).lasts = s.lasts ∧ (s.emptied n l).base = s.base
  | [], s => ⟨rfl, rfl, rfl, rfl, rfl, rfl⟩
  | kv :: l, s => by
    obtain ⟨a, b, c, d, e, f⟩ := emptied_more l (({ s with parts := fset s.parts n l } : Hs).loosed kv.2)
    have h : (({ s with parts := fset s.parts n l } : Hs).loosed kv.2).ends = s.ends ∧ (({ s with parts := fset s.parts n l } : Hs).loosed kv.2).asked = s.asked ∧ (({ s with parts := fset s.parts n l } : Hs).loosed kv.2).outer = s.outer ∧ (({ s with parts := fset s.parts n l } : Hs).loosed kv.2).mine = s.mine ∧ (({ s with parts := fset s.parts n l } : Hs).loosed kv.2).lasts = s.lasts ∧ (({ s with parts := fset s.parts n l } : Hs).loosed kv.2).base = s.base := by
      cases kv.2 with
      | no d => exact ⟨rfl, rfl, rfl, rfl, rfl, rfl⟩
      | th j => rw [loosed_th]; split <;> exact ⟨rfl, rfl, rfl, rfl, rfl, rfl⟩
    exact ⟨a.trans h.1, b.trans h.2.1, c.trans h.2.2.1, d.trans h.2.2.2.1, e.trans h.2.2.2.2.1, f.trans h.2.2.2.2.2⟩
section
variable {ask : AskR} (K : AskE ask) {s s' : Hs} {n : Nat}
include K
theorem Turn.ev (t : Turn ask s n s') (w : Wf s) (g : Good s) (h : ∀ l, s.row = some l → n ∉ l) : Ev s s' := by
  have hcl : Cl s → Cl s' := fun c => (t.cl K.acl w g h c).1
  cases t with
  | pass _ => exact ⟨rfl, Nat.le_refl _, fun _ => rfl, rfl, rfl, rfl, ⟨[], (List.append_nil _).symm⟩, fun _ h _ => h, hcl, fun h => h⟩
  | stay h1 h2 h3 =>
    rename_i s1
    have e := K.ev h2
    have hno : n ∈ s1.outer := K.good.out h2 (List.mem_append_right _ (List.mem_singleton.mpr rfl))
    have hb : ∀ i, (s1.down n).outer.count i + s.ends.count i = s.outer.count i + (s1.down n).ends.count i := fun i => by
      have h4 : s1.outer.count i + s.ends.count i = (s.outer ++ [n]).count i + s1.ends.count i := e.bal i
      rw [cnt_app] at h4
      have h5 : (s1.outer.erase n).count i + _ = _ := cnt_erase hno i
      show (s1.outer.erase n).count i + s.ends.count i = s.outer.count i + s1.ends.count i
      omega
    refine ⟨e.base, e.many, hb, e.rest, e.lasts, e.mine, e.asked, fun i hi hs => e.stay i hi ?_, hcl, fun hk => e.kk hk⟩
    show s.ends.count i < (s.outer ++ [n]).count i
    rw [cnt_app]
    omega
  | go h1 h2 h3 =>
    rename_i s1
    have e := K.ev h2
    have hn : n ∈ s.there := Classical.not_not.mp fun z => h1 (.inr z)
    have hno : n ∈ s1.outer := K.good.out h2 (List.mem_append_right _ (List.mem_singleton.mpr rfl))
    have hb : ∀ i, (s1.down n).outer.count i + s.ends.count i = s.outer.count i + (s1.down n).ends.count i := fun i => by
      have h4 : s1.outer.count i + s.ends.count i = (s.outer ++ [n]).count i + s1.ends.count i := e.bal i
      rw [cnt_app] at h4
      have h5 : (s1.outer.erase n).count i + _ = _ := cnt_erase hno i
      show (s1.outer.erase n).count i + s.ends.count i = s.outer.count i + s1.ends.count i
      omega
    obtain ⟨m1, m2, m3, m4, m5, m6⟩ := emptied_more (n := n) (s1.parts n) ((s1.down n).gone n)
    have g2 : Good (s1.down n) := (K.G h2).down hno
    have hz : (s1.down n).outer.count n = 0 := by
      have h4 := g2.eq n
      unfold cntF at h4
      omega
    have hrest : ((((s1.down n).gone n).emptied n (s1.parts n)).bare n).rest = s.rest := by
      have hnr : n ∉ s.rest := fun z => g.rt n z hn
      show ((((s1.down n).gone n).emptied n (s1.parts n)).rest.filter fun i => decide (i ≠ n)) = s.rest
      rw [emptied_rest]
      show ((s1.rest ++ [n]).filter fun i => decide (i ≠ n)) = s.rest
      rw [show s1.rest = s.rest from e.rest, List.filter_append, filter_no hnr]
      simp
    refine ⟨?_, ?_, fun i => ?_, hrest, ?_, ?_, ?_, fun i hi hs => ?_, hcl, fun hk => ?_⟩
    · show (((s1.down n).gone n).emptied n (s1.parts n)).base = _
      rw [m6]
      exact e.base
    · show s.many ≤ (((s1.down n).gone n).emptied n (s1.parts n)).many
      rw [emptied_many]
      exact e.many
    · show (((s1.down n).gone n).emptied n (s1.parts n)).outer.count i + _ = _ + (((s1.down n).gone n).emptied n (s1.parts n)).ends.count i
      rw [m3, m1]
      exact hb i
    · show (((s1.down n).gone n).emptied n (s1.parts n)).lasts = _
      rw [m5]
      exact e.lasts
    · show (((s1.down n).gone n).emptied n (s1.parts n)).mine = _
      rw [m4]
      exact e.mine
    · obtain ⟨l, hl⟩ := e.asked
      refine ⟨l, ?_⟩
      show (((s1.down n).gone n).emptied n (s1.parts n)).asked = _
      rw [m2]
      exact hl
    · show i ∈ (((s1.down n).gone n).emptied n (s1.parts n)).there
      rw [emptied_there]
      have h5 := hb i
      refine List.mem_filter.mpr ⟨e.stay i hi ?_, ?_⟩
      · show s.ends.count i < (s.outer ++ [n]).count i
        rw [cnt_app]
        omega
      · rw [decide_eq_true_iff]
        rintro rfl
        omega
    · intro i kv hkv
      have hkv : kv ∈ (((s1.down n).gone n).emptied n (s1.parts n)).parts i := hkv
      exact kk_emptied (s1.parts n) ((s1.down n).gone n) rfl (fun i kv h => e.kk hk i kv h) i kv hkv
theorem Work.ev {f : Nat} (t : Work ask f s s') (w : Wf s) (g : Good s) : Ev s s' := by
  induction t with
  | done h => exact ⟨rfl, Nat.le_refl _, fun _ => rfl, rfl, rfl, rfl, ⟨[], (List.append_nil _).symm⟩, fun _ h _ => h, fun c => c.congr rfl rfl (fun _ h => h) rfl rfl, fun h => h⟩
  | step h1 h2 h3 ih =>
    rename_i f n r s s1 s2
    obtain ⟨w1, w2, _⟩ := w.rowTail h1
    have g1 : Good { s with row := some r } := ⟨g.cnt, g.rnd, g.rt, g.rin, g.oin⟩
    have hr : ∀ l, ({ s with row := some r } : Hs).row = some l → n ∉ l := fun l hl => by cases hl; exact w2
    have e1 : Ev { s with row := some r } s1 := h2.ev K w1 g1 hr
    have e0 : Ev s { s with row := some r } := ⟨rfl, Nat.le_refl _, fun _ => rfl, rfl, rfl, rfl, ⟨[], (List.append_nil _).symm⟩, fun _ h _ => h, fun c => c.congr rfl rfl (fun _ h => h) rfl rfl, fun h => h⟩
    exact (e0.trans e1).trans (ih (h2.wf K.ok w1 hr).1 (h2.good K.good w1 g1 hr))
theorem Loose.ev {v : Vl} (t : Loose ask s v s') (w : Wf s) (g : GoodP s v) : Ev s s' := by
  have gl := g.loosed
  have same : ∀ {s2 : Hs}, s2.base = s.base → s2.many = s.many → s2.outer = s.outer → s2.ends = s.ends → s2.rest = s.rest → s2.lasts = s.lasts → s2.mine = s.mine → s2.asked = s.asked → s2.there = s.there → s2.parts = s.parts → s2.own = s.own → Ev s s2 := fun z a b c d e f g h i j =>
    ⟨z, by rw [a]; exact Nat.le_refl _, fun k => by rw [b, c], d, e, f, ⟨[], by rw [g, List.append_nil]⟩, fun k hk _ => by rw [h]; exact hk, fun c => c.congr h i (fun n hn => by rw [d]; exact hn) j a, fun hk n kv hkv => hk n kv (by rw [← i]; exact hkv)⟩
  cases t with
  | no => exact Ev.refl s
  | kept h => exact same rfl rfl rfl rfl rfl rfl rfl rfl rfl rfl rfl
  | wait h _ => exact same rfl rfl rfl rfl rfl rfl rfl rfl rfl rfl rfl
  | work h h1 h2 =>
    rename_i n f
    rw [loosed_th, if_pos h] at gl
    have w1 := (w.dec n).enq h
    have e0 : Ev s { (s.dec n).enq n with row := some [n] } := same rfl rfl rfl rfl rfl rfl rfl rfl rfl rfl rfl
    exact e0.trans (h2.ev K ⟨w1.nd, w1.tin, w1.len, w1.most, w1.key, w1.plen, w1.pv, w1.wnd, w1.win, fun l hl => by
      cases hl
      exact ⟨by simp, fun i hi => by rw [List.mem_singleton.mp hi]; exact List.mem_append_right _ (List.mem_singleton.mpr rfl)⟩, w1.pz, w1.az, w1.kok, w1.eb, w1.an, w1.bs⟩ ⟨gl.cnt, gl.rnd, gl.rt, gl.rin, gl.oin⟩)
end
end HM

set_option Elab.async false
set_option linter.all false
set_option maxRecDepth 100000
namespace HM
open PySem L2 DL
theorem loosed_wr {s : Hs} {W0 r : List Nat} (v : Vl) (h1 : s.row = some r) (h2 : s.waits = W0 ++ r) : ∃ r', (s.loosed v).row = some r' ∧ (s.loosed v).waits = W0 ++ r' := by
  cases v with
  | no d => exact ⟨r, h1, h2⟩
  | th n =>
    rw [loosed_th]
    split
    · refine ⟨r ++ [n], ?_, ?_⟩
      · show s.row.map (· ++ [n]) = _; rw [h1]; rfl
      · show s.waits ++ [n] = _; rw [h2, List.append_assoc]
    · exact ⟨r, h1, h2⟩
theorem emptied_wr {n : Nat} {W0 : List Nat} : ∀ (l : List (Key × Vl)) (s : Hs) (r : List Nat), s.row = some r → s.waits = W0 ++ r → ∃ r', (s.emptied n l).row = some r' ∧ (s.emptied n l).waits = W0 ++ r'
  | [], s, r, h1, h2 => ⟨r, h1, h2⟩
  | kv :: l, s, r, h1, h2 => by
    obtain ⟨r1, a, b⟩ := loosed_wr (s := { s with parts := fset s.parts n l }) kv.2 h1 h2
    exact emptied_wr l _ r1 a b
section
variable {ask : AskR} (K : AskE ask) {s s' : Hs} {n : Nat}
include K
theorem Turn.wr (t : Turn ask s n s') {W0 r : List Nat} (h1 : s.row = some r) (h2 : s.waits = W0 ++ n :: r) (nd : (W0 ++ n :: r).Nodup) : ∃ r', s'.row = some r' ∧ s'.waits = W0 ++ r' := by
  have hn : n ∉ W0 := fun z => (List.nodup_append.mp nd).2.2 n z n (List.mem_cons_self ..) rfl
  have e : (s.unwait n).waits = W0 ++ r := by
    show s.waits.erase n = _
    rw [h2, List.erase_append_right _ hn, List.erase_cons_head]
  cases t with
  | pass _ => exact ⟨r, h1, e⟩
  | stay a b c =>
    rename_i s1
    exact ⟨r, (K.row b).trans h1, (K.waits b).trans e⟩
  | go a b c =>
    rename_i s1
    exact emptied_wr _ ((s1.down n).gone n) r ((K.row b).trans h1) ((K.waits b).trans e)
theorem Work.wr {f : Nat} (t : Work ask f s s') {W0 r : List Nat} (h1 : s.row = some r) (h2 : s.waits = W0 ++ r) (w : Wf s) : s'.waits = W0 ∧ s'.row = none := by
  induction t generalizing r with
  | done h =>
    rw [h] at h1
    cases h1
    rw [List.append_nil] at h2
    exact ⟨h2, rfl⟩
  | step a b c ih =>
    rename_i f n r0 s s1 s2
    rw [a] at h1
    cases h1
    obtain ⟨w1, w2, _⟩ := w.rowTail a
    have nd := w.wnd
    rw [h2] at nd
    obtain ⟨r', b1, b2⟩ := Turn.wr K b (s := { s with row := some r0 }) rfl h2 nd
    exact ih b1 b2 (b.wf K.ok w1 fun l hl => by cases hl; exact w2).1
theorem Loose.wr {v : Vl} (t : Loose ask s v s') (w : Wf s) (h0 : s.row = none) : s'.waits = s.waits ∧ s'.row = none := by
  cases t with
  | no => exact ⟨rfl, h0⟩
  | kept h => exact ⟨rfl, h0⟩
  | wait h h1 => exact absurd h0 h1
  | work h h1 h2 =>
    rename_i n f
    have w1 := (w.dec n).enq h
    exact h2.wr K (W0 := s.waits) (r := [n]) rfl rfl ⟨w1.nd, w1.tin, w1.len, w1.most, w1.key, w1.plen, w1.pv, w1.wnd, w1.win, fun l hl => by
      cases hl
      exact ⟨by simp, fun i hi => by rw [List.mem_singleton.mp hi]; exact List.mem_append_right _ (List.mem_singleton.mpr rfl)⟩, w1.pz, w1.az, w1.kok, w1.eb, w1.an, w1.bs⟩
end
/-! planned deeds -/
inductive Pl where
  | hold (n : Nat) | loose (n : Nat) | part (d : _root_.K.Dp) | sweep (v : Vl)
def Pl.ths : Pl → List Nat
  | .hold n => [n]
  | .loose n => [n]
  | .part (.put n _ (.th j)) => [n, j]
  | .part (.put n _ (.no _)) => [n]
  | .part (.take n _) => [n]
  | .part (.make n _) => [n]
  | .sweep (.th j) => [j]
  | .sweep (.no _) => []
def Pl.all (p : Pl) (s : Hs) : Prop := ∀ j ∈ p.ths, j ∈ s.there
/-- what may stand in a plan -/
def Pl.Pk (m : Nat) : Pl → Prop
  | .hold n => 1 ≤ n ∧ n ≤ m
  | .loose n => 1 ≤ n ∧ n ≤ m
  | .part (.put n k v) => 1 ≤ n ∧ n ≤ m ∧ k ∈ _root_.K.K6 ∧ VOk m v
  | .part (.take n k) => 1 ≤ n ∧ n ≤ m ∧ k ∈ _root_.K.K6
  | .part (.make n k) => 1 ≤ n ∧ n ≤ m ∧ k ∈ _root_.K.K6
  | .sweep v => VOk m v
def Hs.holdE (s : Hs) (n : Nat) : Hs := { s.up n with ends := s.ends ++ [n] }
def Hs.unheldE (s : Hs) (n : Nat) : Hs := { s with outer := s.outer.erase n, ends := s.ends.erase n }
def Hs.tell (s : Hs) : Hs := { s with told := s.told ++ [.list []] }
inductive PlR (ask : AskR) : Pl → Hs → Hs → Prop where
  | pass {p : Pl} {s : Hs} : ¬ p.all s → PlR ask p s s
  | hold {n : Nat} {s : Hs} : n ∈ s.there → PlR ask (.hold n) s (s.holdE n)
  | loose {n : Nat} {s s' : Hs} : n ∈ s.there → n ∈ s.ends → Loose ask (s.unheldE n) (.th n) s' → PlR ask (.loose n) s s'
  | looseNo {n : Nat} {s : Hs} : n ∈ s.there → n ∉ s.ends → PlR ask (.loose n) s s
  | part {d : _root_.K.Dp} {s s' : Hs} : (Pl.part d).all s → d.Ok s → d.k ∈ _root_.K.K6 → d.R ask s s' → PlR ask (.part d) s s'
  | sweep {v : Vl} {s : Hs} : (Pl.sweep v).all s → PlR ask (.sweep v) s s.tell
inductive PlsR (ask : AskR) : List Pl → Hs → Hs → Prop where
  | nil {s : Hs} : PlsR ask [] s s
  | cons {p : Pl} {l : List Pl} {s s1 s2 : Hs} : PlR ask p s s1 → PlsR ask l s1 s2 → PlsR ask (p :: l) s s2
def Hs.asking (s : Hs) (n : Nat) : Hs := { s with asked := s.asked ++ [n], row := none, lasts := s.lasts + 1 }
/-- deeds that may come yet -/
def dnF (pl : Nat → List Pl) (asked : List Nat) (n : Nat) : Nat := if n ∈ asked then 0 else (pl n).length
def dn (pl : Nat → List Pl) (mp : Nat) (asked : List Nat) : Nat := msum (dnF pl asked) mp
/-- the plans fit the state -/
structure Gx (pl : Nat → List Pl) (mp : Nat) (s : Hs) : Prop where
  base : s.base = mp
  out : s.outer.length + dn pl mp s.asked ≤ 45000
/-- how a last is asked: nothing, where it was asked before, else the planned deeds -/
def askD (pl : Nat → List Pl) (mp : Nat) : Nat → AskR
  | 0 => fun s n s' => (Gd s n ∧ Gx pl mp s) ∧ n ∈ s.asked ∧ s' = s
  | d + 1 => fun s n s' => (Gd s n ∧ Gx pl mp s) ∧ ((n ∈ s.asked ∧ s' = s) ∨ (n ∉ s.asked ∧ ∃ s1, PlsR (askD pl mp d) (pl n) (s.asking n) s1 ∧ s' = { s1 with row := s.row, lasts := s1.lasts - 1 }))
/-- what a deed of a plan leaves -/
structure Stp (s s' : Hs) : Prop where
  W : Wf s'
  G : Good s'
  ev : Ev s s'
  row : s'.row = none
  waits : s'.waits = s.waits
theorem kk_put {s : Hs} {n : Nat} {k : Key} {v : Vl} (h : Kk s) (hk : k ∈ _root_.K.K6) : Kk (s.putP n k v) := fun i kv hkv => by
  have hkv : kv ∈ fset s.parts n (gput (s.parts n) k v) i := hkv
  by_cases z : i = n
  · subst z
    rw [fset_same] at hkv
    rcases gput_key hkv with ⟨y, h2, h3⟩ | h2
    · rw [← h3]; exact h i y h2
    · rw [h2]; exact hk
  · rw [fset_ne z] at hkv; exact h i kv hkv
theorem kk_drop {s : Hs} {n : Nat} {k : Key} (h : Kk s) : Kk (s.dropP n k) := fun i kv hkv => by
  have hkv : kv ∈ fset s.parts n (gdrop (s.parts n) k) i := hkv
  by_cases z : i = n
  · subst z
    rw [fset_same] at hkv
    exact h i kv (List.mem_filter.mp hkv).1
  · rw [fset_ne z] at hkv; exact h i kv hkv
theorem Cl.made {s : Hs} (c : Cl s) (w : Wf s) (form : D) {own : D} (ho : NoTh own) : Cl (s.made form own) := by
  refine ⟨fun i hi kv hk j e => ?_, fun n h1 h2 => ?_, fun n h1 h2 => ?_⟩
  · have hk : kv ∈ s.parts i := hk
    rcases List.mem_append.mp hi with hi | hi
    · exact List.mem_append_left _ (c.cl i hi kv hk j e)
    · rw [List.mem_singleton.mp hi, w.pz _ (Nat.lt_succ_self _)] at hk
      cases hk
  · exact c.gp n (fun z => h1 (List.mem_append_left _ z)) h2
  · have h2 : n ≤ s.many + 1 := h2
    show NoTh (fset s.own (s.many + 1) own n)
    by_cases z : n = s.many + 1
    · subst z; rw [fset_same]; exact ho
    · rw [fset_ne z]; exact c.ow n h1 (by omega)
theorem Cl.putP {s : Hs} (c : Cl s) {n : Nat} (hn : n ∈ s.there) (k : Key) {v : Vl} (hv : ∀ j, v = .th j → j ∈ s.there) : Cl (s.putP n k v) := by
  have e1 : (s.putP n k v).there = s.there := by unfold Hs.putP; cases v <;> rfl
  have e2 : (s.putP n k v).rest = s.rest := by unfold Hs.putP; cases v <;> rfl
  have e3 : (s.putP n k v).own = s.own := by unfold Hs.putP; cases v <;> rfl
  have e4 : (s.putP n k v).many = s.many := by unfold Hs.putP; cases v <;> rfl
  have e5 : (s.putP n k v).parts = fset s.parts n (gput (s.parts n) k v) := rfl
  refine ⟨fun i hi kv hk j e => ?_, fun i h1 h2 => ?_, by rw [e3, e4]; exact c.ow⟩
  · rw [e1] at hi ⊢
    rw [e5] at hk
    by_cases z : i = n
    · subst z
      rw [fset_same] at hk
      rcases gput_mem hk with h | h
      · exact c.cl i hi kv h j e
      · exact hv j (by rw [← h, e])
    · rw [fset_ne z] at hk; exact c.cl i hi kv hk j e
  · rw [e1] at h1
    rw [e2] at h2
    rw [e5, fset_ne (fun z => h1 (by rw [z]; exact hn))]
    exact c.gp i h1 h2
theorem Cl.dropP {s : Hs} (c : Cl s) {n : Nat} (hn : n ∈ s.there) (k : Key) : Cl (s.dropP n k) := by
  refine ⟨fun i hi kv hk j e => ?_, fun i h1 h2 => ?_, c.ow⟩
  · have hi : i ∈ s.there := hi
    have hk : kv ∈ fset s.parts n (gdrop (s.parts n) k) i := hk
    by_cases z : i = n
    · subst z
      rw [fset_same] at hk
      exact c.cl i hi kv (List.mem_filter.mp hk).1 j e
    · rw [fset_ne z] at hk; exact c.cl i hi kv hk j e
  · have h1 : i ∉ s.there := h1
    show fset s.parts n _ i = []
    rw [fset_ne (fun z => h1 (by rw [z]; exact hn))]
    exact c.gp i h1 h2
section
variable {ask : AskR} (K : AskE ask) {s s' : Hs}
include K
theorem same_put {n : Nat} {k : Key} {v : Vl} : (s.putP n k v).many = s.many ∧ (s.putP n k v).outer = s.outer ∧ (s.putP n k v).ends = s.ends ∧ (s.putP n k v).rest = s.rest ∧ (s.putP n k v).lasts = s.lasts ∧ (s.putP n k v).mine = s.mine ∧ (s.putP n k v).asked = s.asked ∧ (s.putP n k v).there = s.there ∧ (s.putP n k v).row = s.row ∧ (s.putP n k v).waits = s.waits ∧ (s.putP n k v).base = s.base := by
  unfold Hs.putP
  cases v <;> exact ⟨rfl, rfl, rfl, rfl, rfl, rfl, rfl, rfl, rfl, rfl, rfl⟩
theorem PlR.stp {p : Pl} (t : PlR ask p s s') (w : Wf s) (g : Good s) (h0 : s.row = none) (sl : Slk s) : Stp s s' := by
  cases t with
  | pass _ => exact ⟨w, g, Ev.refl s, h0, rfl⟩
  | looseNo _ _ => exact ⟨w, g, Ev.refl s, h0, rfl⟩
  | sweep _ => exact ⟨⟨w.nd, w.tin, w.len, w.most, w.key, w.plen, w.pv, w.wnd, w.win, w.rnd, w.pz, w.az, w.kok, w.eb, w.an, w.bs⟩, ⟨g.cnt, g.rnd, g.rt, g.rin, g.oin⟩, ⟨rfl, Nat.le_refl _, fun _ => rfl, rfl, rfl, rfl, ⟨[], (List.append_nil _).symm⟩, fun _ h _ => h, fun c => c.congr rfl rfl (fun _ h => h) rfl rfl, fun h => h⟩, h0, rfl⟩
  | hold hn =>
    rename_i n
    have g1 := g.up (w.tin n hn).2
    refine ⟨⟨w.nd, w.tin, w.len, w.most, w.key, w.plen, w.pv, w.wnd, w.win, w.rnd, w.pz, w.az, w.kok, fun i hi => ?_, w.an, w.bs⟩, ⟨g1.cnt, g1.rnd, g1.rt, g1.rin, g1.oin⟩, ⟨rfl, Nat.le_refl _, fun i => ?_, rfl, rfl, rfl, ⟨[], (List.append_nil _).symm⟩, fun _ h _ => h, fun c => c.congr rfl rfl (fun _ h => h) rfl rfl, fun h => h⟩, h0, rfl⟩
    · rcases List.mem_append.mp hi with hi | hi
      · exact w.eb i hi
      · rw [List.mem_singleton.mp hi]; exact w.tin n hn
    · show (s.outer ++ [n]).count i + s.ends.count i = s.outer.count i + (s.ends ++ [n]).count i
      rw [cnt_app, cnt_app]
      omega
  | loose hn he t =>
    rename_i n
    have hno : n ∈ s.outer := List.count_pos_iff.mp (by have := sl n; have := List.count_pos_iff.mpr he; omega)
    have w1 : Wf (s.unheldE n) := ⟨w.nd, w.tin, w.len, w.most, w.key, w.plen, w.pv, w.wnd, w.win, w.rnd, w.pz, w.az, w.kok, fun i hi => w.eb i (List.mem_of_mem_erase hi), w.an, w.bs⟩
    have gu := g.unheld hno
    have g1 : GoodP (s.unheldE n) (.th n) := ⟨gu.cnt, gu.rnd, gu.rt, gu.rin, gu.oin⟩
    have e0 : Ev s (s.unheldE n) := ⟨rfl, Nat.le_refl _, fun i => by
      have h1 := cnt_erase hno i
      have h2 := cnt_erase he i
      show (s.outer.erase n).count i + s.ends.count i = s.outer.count i + (s.ends.erase n).count i
      omega, rfl, rfl, rfl, ⟨[], (List.append_nil _).symm⟩, fun _ h _ => h, fun c => c.congr rfl rfl (fun _ h => h) rfl rfl, fun h => h⟩
    obtain ⟨a, b⟩ := t.wr K w1 h0
    exact ⟨(t.wf K.ok w1).1, t.good K.good w1 g1, e0.trans (t.ev K w1 g1), b, a⟩
  | part ha ok hk r =>
    cases r with
    | put t =>
      rename_i n k v
      obtain ⟨o1, o2, o3, o4⟩ := ok
      have w1 := w.putP (k := k) (w.tin n o1).2 o3 o2 o4
      have g1 := g.putP w o1 k v
      obtain ⟨p1, p2, p3, p4, p5, p6, p7, p8, p9, p10, p11⟩ := same_put (ask := ask) K (s := s) (n := n) (k := k) (v := v)
      have e0 : Ev s (s.putP n k v) := ⟨p11, by rw [p1]; exact Nat.le_refl _, fun i => by rw [p2, p3], p4, p5, p6, ⟨[], by rw [p7, List.append_nil]⟩, fun i hi _ => by rw [p8]; exact hi, fun c => c.putP o1 k fun j e => ha j (by subst e; simp [Pl.ths]), fun h => kk_put h hk⟩
      obtain ⟨a, b⟩ := t.wr K w1 (p9.trans h0)
      exact ⟨(t.wf K.ok w1).1, t.good K.good w1 g1, e0.trans (t.ev K w1 g1), b, a.trans p10⟩
    | take hv t =>
      rename_i n k v
      have w1 := w.dropP (k := k) (w.tin n ok).2
      have g1 := g.dropP w ok hv
      have e0 : Ev s (s.dropP n k) := ⟨rfl, Nat.le_refl _, fun i => rfl, rfl, rfl, rfl, ⟨[], (List.append_nil _).symm⟩, fun i hi _ => hi, fun c => c.dropP ok k, fun h => kk_drop h⟩
      obtain ⟨a, b⟩ := t.wr K w1 h0
      exact ⟨(t.wf K.ok w1).1, t.good K.good w1 g1, e0.trans (t.ev K w1 g1), b, a⟩
    | none h => exact ⟨w, g, Ev.refl s, h0, rfl⟩
    | make t =>
      rename_i n k
      obtain ⟨o1, o2, o3, o4⟩ := ok
      have wm : Wf (_root_.K.Hs.madeIn s) := w.made o3 _ _
      have gm : Good (_root_.K.Hs.madeIn s) := g.made w _ _
      have hnm : n ∈ (_root_.K.Hs.madeIn s).there := List.mem_append_left _ o1
      have hvo : VOk (_root_.K.Hs.madeIn s).many (.th (s.many + 1)) := ⟨Nat.succ_le_succ (Nat.zero_le _), Nat.le_refl _⟩
      have w1 := wm.putP (k := k) (n := n) (v := .th (s.many + 1)) (wm.tin n hnm).2 hvo o2 o4
      have g1 := gm.putP wm hnm k (.th (s.many + 1))
      obtain ⟨p1, p2, p3, p4, p5, p6, p7, p8, p9, p10, p11⟩ := same_put (ask := ask) K (s := _root_.K.Hs.madeIn s) (n := n) (k := k) (v := .th (s.many + 1))
      have e0 : Ev s ((_root_.K.Hs.madeIn s).putP n k (.th (s.many + 1))) := ⟨p11, by rw [p1]; exact Nat.le_succ _, fun i => by rw [p2, p3]; rfl, p4, p5, p6, ⟨[], by rw [p7, List.append_nil]; rfl⟩, fun i hi _ => by rw [p8]; exact List.mem_append_left _ hi,
        fun c => (c.made w _ .non).putP hnm k fun j e => by cases e; exact List.mem_append_right _ (List.mem_singleton.mpr rfl), fun h => kk_put (s := _root_.K.Hs.madeIn s) h hk⟩
      obtain ⟨a, b⟩ := t.wr K w1 (p9.trans h0)
      exact ⟨(t.wf K.ok w1).1, t.good K.good w1 g1, e0.trans (t.ev K w1 g1), b, a.trans p10⟩
theorem PlsR.stp {l : List Pl} (t : PlsR ask l s s') (w : Wf s) (g : Good s) (h0 : s.row = none) (sl : Slk s) : Stp s s' := by
  induction t with
  | nil => exact ⟨w, g, Ev.refl _, h0, rfl⟩
  | cons a _ ih =>
    have x := a.stp K w g h0 sl
    have y := ih x.W x.G x.row (x.ev.slk sl)
    exact ⟨y.W, y.G, x.ev.trans y.ev, y.row, y.waits.trans x.waits⟩
end
theorem Wf.asking {s : Hs} (w : Wf s) {n : Nat} (hn : n ≤ s.many) (hna : n ∉ s.asked) : Wf (s.asking n) := ⟨w.nd, w.tin, w.len, w.most, w.key, w.plen, w.pv, w.wnd, w.win, fun l hl => (by cases hl), w.pz, fun i hi => (List.mem_append.mp hi).elim (w.az i) fun h => (by rw [List.mem_singleton.mp h]; exact hn), w.kok, w.eb, List.nodup_append.mpr ⟨w.an, by simp, fun a ha b hb e => hna (by rw [← List.mem_singleton.mp hb, ← e]; exact ha)⟩, w.bs⟩
/-- asking by plans is well behaved -/
theorem askD_e (pl : Nat → List Pl) (mp : Nat) : ∀ d, AskE (askD pl mp d)
  | 0 => ⟨fun h => h.1.1, fun h => h.2.2 ▸ h.1.1.W, fun h => h.2.2 ▸ h.1.1.G, fun h => h.2.2 ▸ Ev.refl _, fun h => h.2.2 ▸ rfl, fun h => h.2.2 ▸ rfl⟩
  | d + 1 => by
    have K := askD_e pl mp d
    have key : ∀ {s n s'}, askD pl mp (d + 1) s n s' → Wf s' ∧ Good s' ∧ Ev s s' ∧ s'.row = s.row ∧ s'.waits = s.waits := by
      intro s n s' h
      obtain ⟨⟨gd, _⟩, h⟩ := h
      rcases h with ⟨_, rfl⟩ | ⟨hn, s1, hp, rfl⟩
      · exact ⟨gd.W, gd.G, Ev.refl _, rfl, rfl⟩
      · have g := gd.G
        have ga : Good (s.asking n) := ⟨g.cnt, g.rnd, g.rt, g.rin, g.oin⟩
        have x := hp.stp K (gd.W.asking (gd.W.tin n gd.there).2 hn) ga rfl gd.sl
        have W := x.W
        have G := x.G
        have e := x.ev
        have hw : s1.waits = s.waits := x.waits
        refine ⟨⟨W.nd, W.tin, W.len, W.most, W.key, W.plen, W.pv, W.wnd, W.win, fun l hl => ?_, W.pz, W.az, W.kok, W.eb, W.an, W.bs⟩, ⟨G.cnt, G.rnd, G.rt, G.rin, G.oin⟩, ⟨e.base, e.many, e.bal, e.rest, ?_, e.mine, ?_, e.stay, fun c => ?_, e.kk⟩, rfl, hw⟩
        · obtain ⟨a, b⟩ := gd.W.rnd l hl
          exact ⟨a, fun i hi => by show i ∈ s1.waits; rw [hw]; exact b i hi⟩
        · show s1.lasts - 1 = s.lasts
          have : s1.lasts = s.lasts + 1 := e.lasts
          omega
        · obtain ⟨l, hl⟩ := e.asked
          exact ⟨[n] ++ l, by rw [show s1.asked = (s.asked ++ [n]) ++ l from hl, List.append_assoc]⟩
        · exact (e.cl (c.congr rfl rfl (fun _ h => h) rfl rfl)).congr rfl rfl (fun _ h => h) rfl rfl
    exact ⟨fun h => h.1.1, fun h => (key h).1, fun h => (key h).2.1, fun h => (key h).2.2.1, fun h => (key h).2.2.2.1, fun h => (key h).2.2.2.2⟩
end HM

set_option Elab.async false
set_option linter.all false
set_option maxRecDepth 100000
/-! ### what becomes less, and that all comes to its end -/
namespace HM
open PySem L2 DL
structure Pot (pl : Nat → List Pl) (c e δ : Nat) (ψ : Hs → Nat) : Prop where
  cong : ∀ {s s' : Hs}, s'.there = s.there → s'.asked = s.asked → s'.many = s.many → ψ s' = ψ s
  gone : ∀ {s : Hs} {n : Nat}, Wf s → n ∈ s.there → ψ (s.gone n) + δ ≤ ψ s
  made : ∀ {s : Hs} {f o : D}, Wf s → ψ (s.made f o) ≤ ψ s + c
  ask : ∀ {s : Hs} {n : Nat}, Wf s → n ∈ s.there → n ∉ s.asked → ψ (s.asking n) + c * (pl n).length + δ ≤ ψ s
  le : e ≤ c
def phi (ψ : Hs → Nat) (e : Nat) (s : Hs) : Nat := ψ s + e * s.outer.length
section
variable {pl : Nat → List Pl} {c e δ : Nat} {ψ : Hs → Nat} (P : Pot pl c e δ ψ)
include P
theorem Pot.same {s s' : Hs} (h1 : s'.there = s.there) (h2 : s'.asked = s.asked) (h3 : s'.many = s.many) (h4 : s'.outer.length = s.outer.length) : phi ψ e s' = phi ψ e s := by
  unfold phi
  rw [P.cong h1 h2 h3, h4]
variable {ask : AskR} (K : AskE ask) (HA : ∀ {s n s'}, ask s n s' → s' = s ∨ phi ψ e s' + δ ≤ phi ψ e s)
include K HA
theorem Pot.turn {s s' : Hs} {n : Nat} (t : Turn ask s n s') (w : Wf s) (g : Good s) : ((0 < s.cnt n ∨ n ∉ s.there) ∧ s' = s.unwait n) ∨ phi ψ e s' + δ ≤ phi ψ e s := by
  have hup : phi ψ e ((s.unwait n).up n) = phi ψ e s + e := by
    unfold phi
    rw [P.cong (s := s) (s' := (s.unwait n).up n) rfl rfl rfl, show ((s.unwait n).up n).outer.length = s.outer.length + 1 by show (s.outer ++ [n]).length = _; simp, Nat.mul_succ]
    omega
  have hdn : ∀ {s1 : Hs}, n ∈ s1.outer → phi ψ e (s1.down n) + e = phi ψ e s1 := fun {s1} hn => by
    unfold phi
    have : (s1.down n).outer.length + 1 = s1.outer.length := by
      show (s1.outer.erase n).length + 1 = _
      have := List.length_pos_of_mem hn
      rw [List.length_erase_of_mem hn]
      omega
    rw [P.cong (s := s1) (s' := s1.down n) rfl rfl rfl, ← this, Nat.mul_succ]
    omega
  cases t with
  | pass h => exact .inl ⟨h, rfl⟩
  | stay h1 h2 h3 =>
    rename_i s1
    have hno : n ∈ s1.outer := K.good.out h2 (List.mem_append_right _ (List.mem_singleton.mpr rfl))
    rcases HA h2 with rfl | h
    · exfalso
      apply h3
      show fset (fset s.cnt n (s.cnt n + 1)) n (fset s.cnt n (s.cnt n + 1) n - 1) n = 0
      rw [fset_same, fset_same]
      have := g.nonneg n
      have : ¬ 0 < s.cnt n := fun z => h1 (.inl z)
      omega
    · have := hdn hno
      exact .inr (by omega)
  | go h1 h2 h3 =>
    rename_i s1
    have hn : n ∈ s.there := Classical.not_not.mp fun z => h1 (.inr z)
    have hno : n ∈ s1.outer := K.good.out h2 (List.mem_append_right _ (List.mem_singleton.mpr rfl))
    have h4 := hdn hno
    have h5 : phi ψ e s1 ≤ phi ψ e s + e := by
      rcases HA h2 with rfl | h
      · rw [hup]; exact Nat.le_refl _
      · omega
    have w1 := (K.W h2).down n
    have ht1 : n ∈ s1.there := K.ok.stay h2 hn
    have ht : n ∈ (s1.down n).there := ht1
    have h6 := P.gone w1 ht
    have h7 : phi ψ e ((((s1.down n).gone n).emptied n (s1.parts n)).bare n) = phi ψ e ((s1.down n).gone n) := by
      obtain ⟨m1, m2, m3, m4, m5, m6⟩ := emptied_more (n := n) (s1.parts n) ((s1.down n).gone n)
      refine P.same ?_ m2 ?_ (by show (((s1.down n).gone n).emptied n (s1.parts n)).outer.length = _; rw [m3])
      · show (((s1.down n).gone n).emptied n (s1.parts n)).there = _
        rw [emptied_there]
      · show (((s1.down n).gone n).emptied n (s1.parts n)).many = _
        rw [emptied_many]
    refine .inr ?_
    rw [h7]
    unfold phi at h4 h5 ⊢
    show ψ ((s1.down n).gone n) + e * (s1.down n).outer.length + δ ≤ _
    omega
theorem Pot.work {f : Nat} {s s' : Hs} (t : Work ask f s s') (w : Wf s) (g : Good s) : phi ψ e s' ≤ phi ψ e s := by
  induction t with
  | done h => exact Nat.le_of_eq (P.same rfl rfl rfl rfl)
  | step h1 h2 h3 ih =>
    rename_i f n r s s1 s2
    obtain ⟨w1, w2, _⟩ := w.rowTail h1
    have g1 : Good { s with row := some r } := ⟨g.cnt, g.rnd, g.rt, g.rin, g.oin⟩
    have hr : ∀ l, ({ s with row := some r } : Hs).row = some l → n ∉ l := fun l hl => by cases hl; exact w2
    have h4 : phi ψ e s1 ≤ phi ψ e s := by
      rcases P.turn K HA h2 w1 g1 with ⟨_, rfl⟩ | h
      · exact Nat.le_of_eq (P.same rfl rfl rfl rfl)
      · have : phi ψ e ({ s with row := some r } : Hs) = phi ψ e s := P.same rfl rfl rfl rfl
        omega
    exact Nat.le_trans (ih (h2.wf K.ok w1 hr).1 (h2.good K.good w1 g1 hr)) h4
theorem Pot.loose {s s' : Hs} {v : Vl} (t : Loose ask s v s') (w : Wf s) (g : GoodP s v) : phi ψ e s' ≤ phi ψ e s := by
  have gl := g.loosed
  cases t with
  | no => exact Nat.le_refl _
  | kept h => exact Nat.le_of_eq (P.same rfl rfl rfl rfl)
  | wait h _ => exact Nat.le_of_eq (P.same rfl rfl rfl rfl)
  | work h h1 h2 =>
    rename_i n f
    rw [loosed_th, if_pos h] at gl
    have w1 := (w.dec n).enq h
    have := P.work K HA h2 ⟨w1.nd, w1.tin, w1.len, w1.most, w1.key, w1.plen, w1.pv, w1.wnd, w1.win, fun l hl => by
      cases hl
      exact ⟨by simp, fun i hi => by rw [List.mem_singleton.mp hi]; exact List.mem_append_right _ (List.mem_singleton.mpr rfl)⟩, w1.pz, w1.az, w1.kok, w1.eb, w1.an, w1.bs⟩ ⟨gl.cnt, gl.rnd, gl.rt, gl.rin, gl.oin⟩
    have h3 : phi ψ e ({ (s.dec n).enq n with row := some [n] } : Hs) = phi ψ e s := P.same rfl rfl rfl rfl
    omega
theorem Pot.plr {p : Pl} {s s' : Hs} (t : PlR ask p s s') (w : Wf s) (g : Good s) (sl : Slk s) : phi ψ e s' ≤ phi ψ e s + c := by
  have hle := P.le
  cases t with
  | pass _ => exact Nat.le_add_right _ _
  | looseNo _ _ => exact Nat.le_add_right _ _
  | sweep _ =>
    have : phi ψ e s.tell = phi ψ e s := P.same rfl rfl rfl rfl
    omega
  | hold hn =>
    rename_i n
    unfold phi
    rw [P.cong (s := s) (s' := s.holdE n) rfl rfl rfl, show (s.holdE n).outer.length = s.outer.length + 1 by show (s.outer ++ [n]).length = _; simp, Nat.mul_succ]
    omega
  | loose hn he t =>
    rename_i n
    have hno : n ∈ s.outer := List.count_pos_iff.mp (by have := sl n; have := List.count_pos_iff.mpr he; omega)
    have w1 : Wf (s.unheldE n) := ⟨w.nd, w.tin, w.len, w.most, w.key, w.plen, w.pv, w.wnd, w.win, w.rnd, w.pz, w.az, w.kok, fun i hi => w.eb i (List.mem_of_mem_erase hi), w.an, w.bs⟩
    have gu := g.unheld hno
    have g1 : GoodP (s.unheldE n) (.th n) := ⟨gu.cnt, gu.rnd, gu.rt, gu.rin, gu.oin⟩
    have h1 := P.loose K HA t w1 g1
    have h2 : phi ψ e (s.unheldE n) ≤ phi ψ e s := by
      unfold phi
      rw [P.cong (s := s) (s' := s.unheldE n) rfl rfl rfl]
      have : (s.unheldE n).outer.length ≤ s.outer.length := List.length_erase_le ..
      exact Nat.add_le_add_left (Nat.mul_le_mul_left _ this) _
    omega
  | part ha ok hk r =>
    cases r with
    | put t =>
      rename_i n k v
      obtain ⟨o1, o2, o3, o4⟩ := ok
      obtain ⟨p1, p2, p3, p4, p5, p6, p7, p8, p9, p10, p11⟩ := same_put (ask := ask) K (s := s) (n := n) (k := k) (v := v)
      have h1 := P.loose K HA t (w.putP (k := k) (w.tin n o1).2 o3 o2 o4) (g.putP w o1 k v)
      have h2 : phi ψ e (s.putP n k v) = phi ψ e s := P.same p8 p7 p1 (by rw [p2])
      omega
    | take hv t =>
      rename_i n k v
      have h1 := P.loose K HA t (w.dropP (k := k) (w.tin n ok).2) (g.dropP w ok hv)
      have h2 : phi ψ e (s.dropP n k) = phi ψ e s := P.same rfl rfl rfl rfl
      omega
    | none h => exact Nat.le_add_right _ _
    | make t =>
      rename_i n k
      obtain ⟨o1, o2, o3, o4⟩ := ok
      have wm : Wf (_root_.K.Hs.madeIn s) := w.made o3 _ _
      have gm : Good (_root_.K.Hs.madeIn s) := g.made w _ _
      have hnm : n ∈ (_root_.K.Hs.madeIn s).there := List.mem_append_left _ o1
      have hvo : VOk (_root_.K.Hs.madeIn s).many (.th (s.many + 1)) := ⟨Nat.succ_le_succ (Nat.zero_le _), Nat.le_refl _⟩
      obtain ⟨p1, p2, p3, p4, p5, p6, p7, p8, p9, p10, p11⟩ := same_put (ask := ask) K (s := _root_.K.Hs.madeIn s) (n := n) (k := k) (v := .th (s.many + 1))
      have h1 := P.loose K HA t (wm.putP (k := k) (n := n) (v := .th (s.many + 1)) (wm.tin n hnm).2 hvo o2 o4) (gm.putP wm hnm k (.th (s.many + 1)))
      have h2 : phi ψ e ((_root_.K.Hs.madeIn s).putP n k (.th (s.many + 1))) = phi ψ e (_root_.K.Hs.madeIn s) := P.same p8 p7 p1 (by rw [p2])
      have h3 : phi ψ e (_root_.K.Hs.madeIn s) ≤ phi ψ e s + c := by
        unfold phi
        have := P.made (s := s) (f := .str "made") (o := .non) w
        have h5 : ψ (_root_.K.Hs.madeIn s) ≤ ψ s + c := this
        have h6 : (_root_.K.Hs.madeIn s).outer = s.outer := rfl
        rw [h6]
        omega
      omega
theorem Pot.pls {l : List Pl} {s s' : Hs} (t : PlsR ask l s s') (w : Wf s) (g : Good s) (h0 : s.row = none) (sl : Slk s) : phi ψ e s' ≤ phi ψ e s + c * l.length := by
  induction t with
  | nil => exact Nat.le_add_right _ _
  | cons a _ ih =>
    have x := a.stp K w g h0 sl
    have h1 := P.plr K HA a w g sl
    have h2 := ih x.W x.G x.row (x.ev.slk sl)
    rw [List.length_cons, Nat.mul_succ]
    omega
end
theorem Pot.askD {pl : Nat → List Pl} {mp : Nat} {c e δ : Nat} {ψ : Hs → Nat} (P : Pot pl c e δ ψ) : ∀ d {s n s'}, HM.askD pl mp d s n s' → s' = s ∨ phi ψ e s' + δ ≤ phi ψ e s
  | 0, s, n, s', h => .inl h.2.2
  | d + 1, s, n, s', h => by
    obtain ⟨⟨gd, _⟩, h⟩ := h
    rcases h with ⟨_, rfl⟩ | ⟨hn, s1, hp, rfl⟩
    · exact .inl rfl
    · have g := gd.G
      have ga : Good (s.asking n) := ⟨g.cnt, g.rnd, g.rt, g.rin, g.oin⟩
      have h1 := P.pls (askD_e pl mp d) (fun h => Pot.askD P d h) hp (gd.W.asking (gd.W.tin n gd.there).2 hn) ga rfl gd.sl
      have h2 := P.ask gd.W gd.there hn
      have h3 : phi ψ e ({ s1 with row := s.row, lasts := s1.lasts - 1 } : Hs) = phi ψ e s1 := P.same rfl rfl rfl rfl
      have h4 : phi ψ e (s.asking n) = ψ (s.asking n) + e * s.outer.length := rfl
      refine .inr ?_
      rw [h3]
      show _ ≤ ψ s + e * s.outer.length
      omega
/-! the pots -/
/-- things there whose last was not asked -/
def ua (s : Hs) : Nat := (s.there.filter fun n => decide (n ∉ s.asked)).length
def usF (pl : Nat → List Pl) (asked : List Nat) (n : Nat) : Nat := if n ∈ asked then 0 else if pl n = [] then 0 else 1
def us (pl : Nat → List Pl) (mp : Nat) (asked : List Nat) : Nat := msum (usF pl asked) mp
structure Pn (pl : Nat → List Pl) (mp : Nat) : Prop where
  out : ∀ n, n = 0 ∨ mp < n → pl n = []
  pk : ∀ n, ∀ p ∈ pl n, p.Pk mp
theorem msum_le' {f g : Nat → Nat} : ∀ {m : Nat}, (∀ i, f i ≤ g i) → msum f m ≤ msum g m
  | 0, _ => Nat.le_refl _
  | m + 1, h => Nat.add_le_add (msum_le' h) (h _)
theorem dn_ask {pl : Nat → List Pl} {mp : Nat} (P : Pn pl mp) {asked : List Nat} {n : Nat} (h : n ∉ asked) : dn pl mp (asked ++ [n]) + (pl n).length = dn pl mp asked := by
  by_cases z : n = 0 ∨ mp < n
  · rw [P.out n z]
    show msum _ mp + 0 = _
    refine msum_congr fun i h1 h2 => ?_
    unfold dnF
    have : i ≠ n := by omega
    simp [this]
  · unfold dn
    refine (msum_dec (f := dnF pl asked) (g := dnF pl (asked ++ [n])) (d := (pl n).length) (n := n) (by omega) (by omega) ?_ fun i hi => ?_).symm
    · unfold dnF
      rw [if_neg h, if_pos (by simp)]
      omega
    · unfold dnF
      simp [hi]
theorem us_ask {pl : Nat → List Pl} {mp : Nat} (P : Pn pl mp) {asked : List Nat} {n : Nat} (h : n ∉ asked) (hp : pl n ≠ []) : us pl mp (asked ++ [n]) + 1 = us pl mp asked := by
  have z : ¬ (n = 0 ∨ mp < n) := fun z => hp (P.out n z)
  unfold us
  refine (msum_dec (f := usF pl asked) (g := usF pl (asked ++ [n])) (d := 1) (n := n) (by omega) (by omega) ?_ fun i hi => ?_).symm
  · unfold usF
    rw [if_neg h, if_neg hp, if_pos (by simp)]
  · unfold usF
    simp [hi]
theorem us_mono {pl : Nat → List Pl} {mp : Nat} {a l : List Nat} : us pl mp (a ++ l) ≤ us pl mp a := msum_le' fun i => by
  unfold usF
  by_cases h : i ∈ a
  · rw [if_pos (List.mem_append_left _ h), if_pos h]; exact Nat.le_refl _
  · rw [if_neg h]
    split
    · exact Nat.zero_le _
    · exact Nat.le_refl _
theorem ua_ask {s : Hs} {n : Nat} (w : Wf s) (hn : n ∈ s.there) (h : n ∉ s.asked) : ua (s.asking n) + 1 = ua s := by
  unfold ua
  show (s.there.filter fun i => decide (i ∉ s.asked ++ [n])).length + 1 = _
  have nd := w.nd
  generalize s.there = l at hn nd
  induction l with
  | nil => cases hn
  | cons a l ih =>
    rw [List.nodup_cons] at nd
    rw [List.filter_cons, List.filter_cons]
    by_cases z : a = n
    · subst z
      rw [if_neg (by simp), if_pos (by simpa using h), List.length_cons]
      congr 2
      refine List.filter_congr fun i hi => ?_
      have : i ≠ a := fun e => nd.1 (e ▸ hi)
      rw [decide_eq_decide]
      simp [this]
    · have := ih ((List.mem_cons.mp hn).resolve_left (Ne.symm z)) nd.2
      by_cases y : a ∈ s.asked
      · rw [if_neg (by simp [y]), if_neg (by simp [y])]
        exact this
      · rw [if_pos (by simp [y, z]), if_pos (by simp [y]), List.length_cons, List.length_cons]
        omega
def muP (pl : Nat → List Pl) (mp : Nat) (s : Hs) : Nat := 3 * dn pl mp s.asked + 2 * s.there.length + ua s
theorem gone_len {s : Hs} {n : Nat} (h : n ∈ s.there) : (s.gone n).there.length + 1 ≤ s.there.length := by
  show (s.there.filter fun i => decide (i ≠ n)).length + 1 ≤ _
  have : (s.there.filter fun i => decide (i ≠ n)).length < s.there.length := List.length_filter_lt_length_iff_exists.mpr ⟨n, h, by simp⟩
  omega
theorem pot_mu {pl : Nat → List Pl} {mp : Nat} (P : Pn pl mp) : Pot pl 3 0 1 (muP pl mp) := by
  refine ⟨fun h1 h2 h3 => ?_, fun {s n} w hn => ?_, fun {s f o} w => ?_, fun {s n} w hn h => ?_, by decide⟩
  · unfold muP ua
    rw [h1, h2]
  · have h1 := gone_len hn
    have h2 : ua (s.gone n) ≤ ua s := by
      unfold ua
      exact (List.filter_sublist.filter _).length_le
    have h3 : (s.gone n).asked = s.asked := rfl
    unfold muP
    rw [h3]
    omega
  · have h1 : (s.made f o).there.length = s.there.length + 1 := by show (s.there ++ [s.many + 1]).length = _; simp
    have h2 : ua (s.made f o) ≤ ua s + 1 := by
      unfold ua
      show ((s.there ++ [s.many + 1]).filter _).length ≤ _
      rw [List.filter_append, List.length_append]
      exact Nat.add_le_add_left (List.length_filter_le ..) _
    have h3 : (s.made f o).asked = s.asked := rfl
    unfold muP
    rw [h1, h3]
    omega
  · have h1 := dn_ask P h
    have h2 := ua_ask w hn h
    have h3 : (s.asking n).there = s.there := rfl
    have h4 : (s.asking n).asked = s.asked ++ [n] := rfl
    unfold muP
    rw [h3, h4]
    omega
def nbP (pl : Nat → List Pl) (mp : Nat) (s : Hs) : Nat := s.many + dn pl mp s.asked
theorem pot_nb {pl : Nat → List Pl} {mp : Nat} (P : Pn pl mp) : Pot pl 1 0 0 (nbP pl mp) := by
  refine ⟨fun h1 h2 h3 => ?_, fun {s n} w hn => Nat.le_refl _, fun {s f o} w => ?_, fun {s n} w hn h => ?_, by decide⟩
  · unfold nbP
    rw [h2, h3]
  · show s.many + 1 + _ ≤ s.many + _ + 1
    have h3 : (s.made f o).asked = s.asked := rfl
    rw [h3]
    omega
  · have h1 := dn_ask P h
    have h4 : (s.asking n).asked = s.asked ++ [n] := rfl
    have h5 : (s.asking n).many = s.many := rfl
    unfold nbP
    rw [h4, h5]
    omega
/-- holds from outside, and those that may come -/
theorem pot_out {pl : Nat → List Pl} {mp : Nat} (P : Pn pl mp) : Pot pl 1 1 0 (fun s => dn pl mp s.asked) := by
  refine ⟨fun h1 h2 h3 => ?_, fun {s n} w hn => Nat.le_refl _, fun {s f o} w => ?_, fun {s n} w hn h => ?_, by decide⟩
  · show dn pl mp _ = dn pl mp _
    rw [h2]
  · exact Nat.le_succ _
  · have h1 := dn_ask P h
    show dn pl mp (s.asked ++ [n]) + _ + 0 ≤ _
    omega
theorem hlen_of {pl : Nat → List Pl} {mp : Nat} (P : Pn pl mp) {d : Nat} {s s' : Hs} {n : Nat} (h : askD pl mp d s n s') : s'.outer.length + dn pl mp s'.asked ≤ s.outer.length + dn pl mp s.asked := by
  rcases (pot_out P).askD d h with rfl | h
  · exact Nat.le_refl _
  · unfold phi at h
    dsimp only at h
    omega
/-! all comes to its end -/
structure Jn (pl : Nat → List Pl) (mp : Nat) (s : Hs) : Prop where
  kk : Kk s
  nb : nbP pl mp s ≤ 4900
  base : s.base = mp
  out : s.outer.length + dn pl mp s.asked ≤ 44999
theorem Jn.ev {pl : Nat → List Pl} {mp : Nat} {s s' : Hs} (j : Jn pl mp s) (e : Ev s s') (h : nbP pl mp s' ≤ nbP pl mp s) (ho : s'.outer.length + dn pl mp s'.asked ≤ s.outer.length + dn pl mp s.asked) : Jn pl mp s' := ⟨e.kk j.kk, Nat.le_trans h j.nb, e.base.trans j.base, Nat.le_trans ho j.out⟩
theorem Jn.same {pl : Nat → List Pl} {mp : Nat} {s s' : Hs} (j : Jn pl mp s) (h1 : s'.parts = s.parts) (h2 : s'.many = s.many) (h3 : s'.asked = s.asked) (h4 : s'.base = s.base) (h5 : s'.outer.length ≤ s.outer.length) : Jn pl mp s' := ⟨fun n kv hk => j.kk n kv (by rw [← h1]; exact hk), by unfold nbP; rw [h2, h3]; exact j.nb, h4.trans j.base, by rw [h3]; have := j.out; omega⟩
def uS (pl : Nat → List Pl) (mp : Nat) (s : Hs) : Nat := us pl mp s.asked
theorem uS_ev {pl : Nat → List Pl} {mp : Nat} {s s' : Hs} (e : Ev s s') : uS pl mp s' ≤ uS pl mp s := by
  obtain ⟨l, hl⟩ := e.asked
  unfold uS
  rw [hl]
  exact us_mono
section
variable {pl : Nat → List Pl} {mp d : Nat} (P : Pn pl mp)
def ExA (pl : Nat → List Pl) (mp d : Nat) : Prop := ∀ s n, Kk s → nbP pl mp s ≤ 4900 → Gx pl mp s → Gd s n → uS pl mp s ≤ d → ∃ s', askD pl mp (d + 1) s n s'
include P
theorem nb_ask {d : Nat} {s n s'} (h : askD pl mp d s n s') : s' = s ∨ phi (nbP pl mp) 0 s' + 0 ≤ phi (nbP pl mp) 0 s := (pot_nb P).askD d h
theorem ex_work (A : ExA pl mp d) : ∀ (m k : Nat) (s : Hs) (l : List Nat), muP pl mp s ≤ m → l.length ≤ k → s.row = some l → Wf s → Good s → Slk s → Jn pl mp s → uS pl mp s ≤ d → ∃ f s', Work (askD pl mp (d + 1)) f s s' := by
  intro m
  induction m with
  | zero =>
    intro k
    induction k with
    | zero =>
      intro s l hm hk hr w g sl j hu
      rw [List.length_eq_zero_iff.mp (Nat.le_zero.mp hk)] at hr
      exact ⟨0, _, .done hr⟩
    | succ k ih =>
      intro s l hm hk hr w g sl j hu
      cases l with
      | nil => exact ⟨0, _, .done hr⟩
      | cons n r =>
        obtain ⟨w1, w2, _⟩ := w.rowTail hr
        by_cases hp : 0 < s.cnt n ∨ n ∉ s.there
        · have t : Turn (askD pl mp (d + 1)) { s with row := some r } n (Hs.unwait { s with row := some r } n) := .pass hp
          have hrn : ∀ l, ({ s with row := some r } : Hs).row = some l → n ∉ l := fun l hl => by cases hl; exact w2
          obtain ⟨f, s', t2⟩ := ih (Hs.unwait { s with row := some r } n) r hm (by rw [List.length_cons] at hk; omega) rfl (w1.unwait hrn) ⟨g.cnt, g.rnd, g.rt, g.rin, g.oin⟩ sl (j.same rfl rfl rfl rfl (Nat.le_refl _)) hu
          exact ⟨f + 1, s', .step hr t t2⟩
        · exfalso
          have hn : n ∈ s.there := Classical.not_not.mp fun z => hp (.inr z)
          have : 0 < s.there.length := List.length_pos_of_mem hn
          unfold muP at hm
          omega
  | succ m ihm =>
    intro k
    induction k with
    | zero =>
      intro s l hm hk hr w g sl j hu
      rw [List.length_eq_zero_iff.mp (Nat.le_zero.mp hk)] at hr
      exact ⟨0, _, .done hr⟩
    | succ k ih =>
      intro s l hm hk hr w g sl j hu
      cases l with
      | nil => exact ⟨0, _, .done hr⟩
      | cons n r =>
        obtain ⟨w1, w2, _⟩ := w.rowTail hr
        have hrn : ∀ l, ({ s with row := some r } : Hs).row = some l → n ∉ l := fun l hl => by cases hl; exact w2
        have g1 : Good { s with row := some r } := ⟨g.cnt, g.rnd, g.rt, g.rin, g.oin⟩
        by_cases hp : 0 < s.cnt n ∨ n ∉ s.there
        · have t : Turn (askD pl mp (d + 1)) { s with row := some r } n (Hs.unwait { s with row := some r } n) := .pass hp
          obtain ⟨f, s', t2⟩ := ih (Hs.unwait { s with row := some r } n) r hm (by rw [List.length_cons] at hk; omega) rfl (w1.unwait hrn) ⟨g.cnt, g.rnd, g.rt, g.rin, g.oin⟩ sl (j.same rfl rfl rfl rfl (Nat.le_refl _)) hu
          exact ⟨f + 1, s', .step hr t t2⟩
        · have hn : n ∈ s.there := Classical.not_not.mp fun z => hp (.inr z)
          have hb := w.tin n hn
          have gd : Gd ((Hs.unwait { s with row := some r } n).up n) n := by
            refine ⟨(w1.unwait hrn).up n, (Good.unwait g1).up hb.2, hn, fun i => ?_, ?_⟩
            · show s.ends.count i ≤ (s.outer ++ [n]).count i
              rw [cnt_app]
              have := sl i
              omega
            · show s.ends.count n < (s.outer ++ [n]).count n
              rw [cnt_app, if_pos rfl]
              have := sl n
              omega
          obtain ⟨s1, ha⟩ := A ((Hs.unwait { s with row := some r } n).up n) n j.kk j.nb ⟨j.base, by
            have h1 := j.out
            show (s.outer ++ [n]).length + dn pl mp s.asked ≤ 45000
            rw [List.length_append, List.length_singleton]
            omega⟩ gd hu
          have K := askD_e pl mp (d + 1)
          have hs : ∃ s2, Turn (askD pl mp (d + 1)) { s with row := some r } n s2 := by
            by_cases hc : (s1.down n).cnt n = 0
            · exact ⟨_, .go hp ha hc⟩
            · exact ⟨_, .stay hp ha hc⟩
          obtain ⟨s2, t⟩ := hs
          have ev := t.ev K w1 g1 hrn
          have hw2 := (t.wf K.ok w1 hrn).1
          have hg2 := t.good K.good w1 g1 hrn
          have hmu : muP pl mp s2 < muP pl mp s := by
            rcases (pot_mu P).turn K (fun h => (pot_mu P).askD _ h) t w1 g1 with h | h
            · exact absurd h.1 hp
            · unfold phi at h
              have e1 : muP pl mp ({ s with row := some r } : Hs) = muP pl mp s := rfl
              omega
          have hrow : s2.row ≠ none := by
            cases t with
            | pass _ => exact nofun
            | stay _ b b2 =>
              rename_i s3 h9
              have h3 : s3.row = some r := K.row b
              show s3.row ≠ none
              rw [h3]
              exact nofun
            | go _ b b2 =>
              rename_i s3 h9
              have h3 : s3.row = some r := K.row b
              intro z
              have h4 : ((s3.down n).gone n).row = none := (emptied_row _ _).mp (show (((s3.down n).gone n).emptied n (s3.parts n)).row = none from z)
              have h5 : s3.row = none := h4
              rw [h3] at h5
              cases h5
          obtain ⟨l2, hl2⟩ := Option.ne_none_iff_exists'.mp hrow
          have hnb : nbP pl mp s2 ≤ nbP pl mp s := by
            rcases (pot_nb P).turn K (fun h => nb_ask P h) t w1 g1 with ⟨_, rfl⟩ | h
            · exact Nat.le_refl _
            · unfold phi at h
              have e1 : nbP pl mp ({ s with row := some r } : Hs) = nbP pl mp s := rfl
              omega
          have hob : s2.outer.length + dn pl mp s2.asked ≤ s.outer.length + dn pl mp s.asked := by
            rcases (pot_out P).turn K (fun h => (pot_out P).askD _ h) t w1 g1 with ⟨_, rfl⟩ | h
            · exact Nat.le_refl _
            · unfold phi at h
              dsimp only at h
              omega
          have jv : Jn pl mp s2 := (j.same (s' := { s with row := some r }) rfl rfl rfl rfl (Nat.le_refl _)).ev ev hnb hob
          obtain ⟨f, s', t2⟩ := ihm l2.length s2 l2 (by omega) (Nat.le_refl _) hl2 hw2 hg2 (ev.slk sl) jv (Nat.le_trans (uS_ev ev) hu)
          exact ⟨f + 1, s', .step hr t t2⟩
theorem ex_loose (A : ExA pl mp d) {s : Hs} {v : Vl} (w : Wf s) (g : GoodP s v) (sl : Slk s) (j : Jn pl mp s) (hu : uS pl mp s ≤ d) (h0 : s.row = none) : ∃ s', Loose (askD pl mp (d + 1)) s v s' := by
  cases v with
  | no x => exact ⟨s, .no⟩
  | th n =>
    cases he : (s.dec n).enqs n with
    | false => exact ⟨_, .kept he⟩
    | true =>
      have gl := g.loosed
      rw [loosed_th, if_pos he] at gl
      have w1 := (w.dec n).enq he
      obtain ⟨f, s', t⟩ := ex_work P A _ _ { (s.dec n).enq n with row := some [n] } [n] (Nat.le_refl _) (Nat.le_refl _) rfl ⟨w1.nd, w1.tin, w1.len, w1.most, w1.key, w1.plen, w1.pv, w1.wnd, w1.win, fun l hl => by
        cases hl
        exact ⟨by simp, fun i hi => by rw [List.mem_singleton.mp hi]; exact List.mem_append_right _ (List.mem_singleton.mpr rfl)⟩, w1.pz, w1.az, w1.kok, w1.eb, w1.an, w1.bs⟩ ⟨gl.cnt, gl.rnd, gl.rt, gl.rin, gl.oin⟩ sl (j.same rfl rfl rfl rfl (Nat.le_refl _)) hu
      exact ⟨s', .work he h0 t⟩
theorem parts6 {s : Hs} (w : Wf s) (h : Kk s) (n : Nat) : (s.parts n).length ≤ 9 := _root_.K.keys_len (w.key n) (h n)
/-- one planned deed -/
theorem ex_plr (A : ExA pl mp d) {p : Pl} {s : Hs} (hp : p.Pk mp) (w : Wf s) (g : Good s) (sl : Slk s) (h0 : s.row = none) (hk : Kk s) (hb : nbP pl mp s + 1 ≤ 4900) (hba : s.base = mp) (ho : s.outer.length + dn pl mp s.asked + 1 ≤ 45000) (hu : uS pl mp s ≤ d) : ∃ s', PlR (askD pl mp (d + 1)) p s s' := by
  have hm : mp ≤ s.many := by rw [← hba]; exact w.bs
  have j : Jn pl mp s := ⟨hk, by omega, hba, by omega⟩
  have vok : ∀ {v : Vl}, VOk mp v → VOk s.many v := fun {v} h => by
    cases v with
    | no x => exact h
    | th i => exact ⟨h.1, Nat.le_trans h.2 hm⟩
  by_cases ha : p.all s
  · cases p with
    | hold n => exact ⟨_, .hold (ha n (by simp [Pl.ths]))⟩
    | loose n =>
      have hn := ha n (by simp [Pl.ths])
      by_cases he : n ∈ s.ends
      · have hno : n ∈ s.outer := List.count_pos_iff.mp (by have := sl n; have := List.count_pos_iff.mpr he; omega)
        have w1 : Wf (s.unheldE n) := ⟨w.nd, w.tin, w.len, w.most, w.key, w.plen, w.pv, w.wnd, w.win, w.rnd, w.pz, w.az, w.kok, fun i hi => w.eb i (List.mem_of_mem_erase hi), w.an, w.bs⟩
        have gu := g.unheld hno
        have g1 : GoodP (s.unheldE n) (.th n) := ⟨gu.cnt, gu.rnd, gu.rt, gu.rin, gu.oin⟩
        have sl1 : Slk (s.unheldE n) := fun i => by
          have h1 := cnt_erase hno i
          have h2 := cnt_erase he i
          have h3 := sl i
          show (s.ends.erase n).count i ≤ (s.outer.erase n).count i
          omega
        obtain ⟨s', t⟩ := ex_loose P A w1 g1 sl1 (j.same rfl rfl rfl rfl (List.length_erase_le ..)) hu h0
        exact ⟨s', .loose hn he t⟩
      · exact ⟨s, .looseNo hn he⟩
    | sweep v => exact ⟨_, .sweep ha⟩
    | part dd =>
      cases dd with
      | put n k v =>
        obtain ⟨q1, q2, q3, q4⟩ := hp
        have o1 : n ∈ s.there := ha n (by cases v <;> simp [Pl.ths])
        have ok : (_root_.K.Dp.put n k v).Ok s := ⟨o1, _root_.K.k6_any q3, vok q4, by have := parts6 P w hk n; omega⟩
        have w1 := w.putP (k := k) (w.tin n o1).2 (vok q4) (_root_.K.k6_any q3) ok.2.2.2
        have g1 := g.putP w o1 k v
        obtain ⟨p1, p2, p3, p4, p5, p6, p7, p8, p9, p10, p11⟩ := same_put (ask := askD pl mp (d + 1)) (askD_e pl mp (d + 1)) (s := s) (n := n) (k := k) (v := v)
        obtain ⟨s', t⟩ := ex_loose P A w1 g1 (fun i => by rw [p2, p3]; exact sl i) ⟨kk_put hk q3, by unfold nbP; rw [p1, p7]; have : nbP pl mp s = s.many + dn pl mp s.asked := rfl; omega, p11.trans hba, by rw [p2, p7]; omega⟩ (by unfold uS; rw [p7]; exact hu) (p9.trans h0)
        exact ⟨s', .part ha ok q3 (.put t)⟩
      | take n k =>
        obtain ⟨q1, q2, q3⟩ := hp
        have o1 : n ∈ s.there := ha n (by simp [Pl.ths])
        cases hv : gval (s.parts n) k with
        | none => exact ⟨s, .part ha o1 q3 (.none hv)⟩
        | some v =>
          obtain ⟨s', t⟩ := ex_loose P A (w.dropP (k := k) (w.tin n o1).2) (g.dropP w o1 hv) sl ⟨kk_drop hk, j.nb, hba, j.out⟩ hu h0
          exact ⟨s', .part ha o1 q3 (.take hv t)⟩
      | make n k =>
        obtain ⟨q1, q2, q3⟩ := hp
        have o1 : n ∈ s.there := ha n (by simp [Pl.ths])
        have hlt : s.many + 1 ≤ 4900 := by
          have : nbP pl mp s = s.many + dn pl mp s.asked := rfl
          omega
        have ok : (_root_.K.Dp.make n k).Ok s := ⟨o1, _root_.K.k6_any q3, by omega, by have := parts6 P w hk n; omega⟩
        have wm : Wf (_root_.K.Hs.madeIn s) := w.made ok.2.2.1 _ _
        have gm : Good (_root_.K.Hs.madeIn s) := g.made w _ _
        have hnm : n ∈ (_root_.K.Hs.madeIn s).there := List.mem_append_left _ o1
        have hvo : VOk (_root_.K.Hs.madeIn s).many (.th (s.many + 1)) := ⟨Nat.succ_le_succ (Nat.zero_le _), Nat.le_refl _⟩
        obtain ⟨p1, p2, p3, p4, p5, p6, p7, p8, p9, p10, p11⟩ := same_put (ask := askD pl mp (d + 1)) (askD_e pl mp (d + 1)) (s := _root_.K.Hs.madeIn s) (n := n) (k := k) (v := .th (s.many + 1))
        obtain ⟨s', t⟩ := ex_loose P A (wm.putP (k := k) (n := n) (v := .th (s.many + 1)) (wm.tin n hnm).2 hvo ok.2.1 ok.2.2.2) (gm.putP wm hnm k (.th (s.many + 1))) (fun i => by rw [p2, p3]; exact sl i) ⟨kk_put (s := _root_.K.Hs.madeIn s) hk q3, by
          unfold nbP
          rw [p1, p7]
          have h1 : nbP pl mp s = s.many + dn pl mp s.asked := rfl
          have h2 : (_root_.K.Hs.madeIn s).many = s.many + 1 := rfl
          have h3 : (_root_.K.Hs.madeIn s).asked = s.asked := rfl
          rw [h2, h3]
          omega, p11.trans hba, by
          rw [p2, p7]
          show s.outer.length + dn pl mp s.asked ≤ 44999
          omega⟩ (by unfold uS; rw [p7]; exact hu) (p9.trans h0)
        exact ⟨s', .part ha ok q3 (.make t)⟩
  · exact ⟨s, .pass ha⟩
theorem ex_pls (A : ExA pl mp d) : ∀ {l : List Pl} {s : Hs}, (∀ p ∈ l, p.Pk mp) → Wf s → Good s → Slk s → s.row = none → Kk s → nbP pl mp s + l.length ≤ 4900 → s.base = mp → s.outer.length + dn pl mp s.asked + l.length ≤ 45000 → uS pl mp s ≤ d → ∃ s', PlsR (askD pl mp (d + 1)) l s s'
  | [], s, _, _, _, _, _, _, _, _, _, _ => ⟨s, .nil⟩
  | p :: l, s, hp, w, g, sl, h0, hk, hb, hba, ho, hu => by
    rw [List.length_cons] at hb ho
    obtain ⟨s1, t⟩ := ex_plr P A (hp p (List.mem_cons_self ..)) w g sl h0 hk (by omega) hba (by omega) hu
    have K := askD_e pl mp (d + 1)
    have x := t.stp K w g h0 sl
    have hnb : nbP pl mp s1 ≤ nbP pl mp s + 1 := by
      have := (pot_nb P).plr K (fun h => nb_ask P h) t w g sl
      unfold phi at this
      omega
    have hob : s1.outer.length + dn pl mp s1.asked ≤ s.outer.length + dn pl mp s.asked + 1 := by
      have := (pot_out P).plr K (fun h => (pot_out P).askD _ h) t w g sl
      unfold phi at this
      dsimp only at this
      omega
    obtain ⟨s2, t2⟩ := ex_pls A (l := l) (fun p h => hp p (List.mem_cons_of_mem _ h)) x.W x.G (x.ev.slk sl) x.row (x.ev.kk hk) (by omega) (x.ev.base.trans hba) (by omega) (Nat.le_trans (uS_ev x.ev) hu)
    exact ⟨s2, .cons t t2⟩
theorem ex_ask : ∀ d, ExA pl mp d
  | 0 => fun s n hk hb gx gd hu => by
    by_cases hn : n ∈ s.asked
    · exact ⟨s, ⟨gd, gx⟩, .inl ⟨hn, rfl⟩⟩
    · have hp : pl n = [] := Classical.byContradiction fun z => by
        have := us_ask P hn z
        unfold uS at hu
        omega
      exact ⟨_, ⟨gd, gx⟩, .inr ⟨hn, s.asking n, by rw [hp]; exact .nil, rfl⟩⟩
  | d + 1 => fun s n hk hb gx gd hu => by
    by_cases hn : n ∈ s.asked
    · exact ⟨s, ⟨gd, gx⟩, .inl ⟨hn, rfl⟩⟩
    · have A := ex_ask d
      by_cases hp : pl n = []
      · exact ⟨_, ⟨gd, gx⟩, .inr ⟨hn, s.asking n, by rw [hp]; exact .nil, rfl⟩⟩
      · have h1 := us_ask P hn hp
        have h2 := dn_ask P hn
        have hpl : 0 < (pl n).length := List.length_pos_iff.mpr hp
        have g := gd.G
        have hout := gx.out
        obtain ⟨s1, t⟩ := ex_pls P A (l := pl n) (s := s.asking n) (P.pk n) (gd.W.asking (gd.W.tin n gd.there).2 hn) ⟨g.cnt, g.rnd, g.rt, g.rin, g.oin⟩ gd.sl rfl hk (by
          have h3 : nbP pl mp (s.asking n) = s.many + dn pl mp (s.asked ++ [n]) := rfl
          have h4 : nbP pl mp s = s.many + dn pl mp s.asked := rfl
          omega) gx.base (by
          show s.outer.length + dn pl mp (s.asked ++ [n]) + (pl n).length ≤ 45000
          omega) (by
          have h3 : uS pl mp (s.asking n) = us pl mp (s.asked ++ [n]) := rfl
          have h4 : uS pl mp s = us pl mp s.asked := rfl
          omega)
        exact ⟨_, ⟨gd, gx⟩, .inr ⟨hn, s1, t, rfl⟩⟩
end
end HM

set_option Elab.async false
set_option linter.all false
set_option maxRecDepth 100000
namespace HM
open PySem L2 DL
def vF (f : Nat → Addr) : Vl → D
  | .no d => d
  | .th n => .ref (f n)
/-- a planned deed as the ender has it -/
def Pl.dH (f : Nat → Addr) : Pl → D
  | .hold n => .tup [.str "hold", .ref (f n)]
  | .loose n => .tup [.str "loose", .ref (f n)]
  | .part (.put n k v) => .tup [.str "put", .ref (f n), dK k, vF f v]
  | .part (.take n k) => .tup [.str "take", .ref (f n), dK k]
  | .part (.make n k) => .tup [.str "make", .ref (f n), dK k]
  | .sweep v => .tup [.str "sweep", vF f v]
end HM
namespace K
open PySem L2 Evl EX DL HM
abbrev s_Ends_lay : Stmt := inClass (top 5) 1
abbrev N_Ends_lay : List Str := ["self", "hall"]
theorem sc_Ends_lay : FnScope N_Ends_lay ["self", "hall"] (defScope s_Ends_lay) := ⟨rfl, rfl, rfl, by decide +kernel, rfl, by decide +kernel, by decide +kernel⟩
abbrev s_Ends_last : Stmt := inClass (top 5) 3
abbrev N_Ends_last : List Str := ["self", "thing", "deed", "one"]
theorem sc_Ends_last : FnScope N_Ends_last ["self", "thing"] (defScope s_Ends_last) := ⟨rfl, rfl, rfl, by decide +kernel, rfl, by decide +kernel, by decide +kernel⟩
abbrev s_Ends_is_there : Stmt := inClass (top 5) 4
abbrev N_Ends_is_there : List Str := ["self", "value"]
theorem sc_Ends_is_there : FnScope N_Ends_is_there ["self", "value"] (defScope s_Ends_is_there) := ⟨rfl, rfl, rfl, by decide +kernel, rfl, by decide +kernel, by decide +kernel⟩
abbrev s_Ends_do : Stmt := inClass (top 5) 5
abbrev N_Ends_do : List Str := ["self", "deed"]
theorem sc_Ends_do : FnScope N_Ends_do ["self", "deed"] (defScope s_Ends_do) := ⟨rfl, rfl, rfl, by decide +kernel, rfl, by decide +kernel, by decide +kernel⟩
abbrev s_Ends_asked : Stmt := inClass (top 5) 7
abbrev N_Ends_asked : List Str := ["self"]
theorem sc_Ends_asked : FnScope N_Ends_asked ["self"] (defScope s_Ends_asked) := ⟨rfl, rfl, rfl, by decide +kernel, rfl, by decide +kernel, by decide +kernel⟩
structure TxE (K : PySem.W.Frag) (mg : Str → Option Value) (CT CH CE : Addr) : Prop extends Txt K mg CT CH where
  Ends_ : ClsD K CE ["hall", "plans", "numbers", "holds"]
  ThingE : EqC K CT
/-- an ender's fields -/
def enFs (hall plans nums holds : D) : List (Str × D) := [("hall", hall), ("plans", plans), ("numbers", nums), ("holds", holds)]
section
variable {a b c d x : D}
theorem en_hall : (enFs a b c d).lookup ("hall" : Str) = some a := rfl
theorem en_plans : (enFs a b c d).lookup ("plans" : Str) = some b := rfl
theorem en_nums : (enFs a b c d).lookup ("numbers" : Str) = some c := rfl
theorem en_holds : (enFs a b c d).lookup ("holds" : Str) = some d := rfl
end
/-- a run with an ender: the place of its class's dict, whose deeds were told, the deeds, and of how many things -/
structure Ix where
  dx : Addr
  ks : List Nat
  pl : Nat → List Pl
  mp : Nat
structure Ix.Ok (I : Ix) : Prop where
  P : Pn I.pl I.mp
  D : ∀ n, n ∉ I.ks → I.pl n = []
  S : ∀ m, ∀ p ∈ I.pl m, ∀ v, p ≠ .sweep v
def cutF (b : Nat) (f : Nat → Addr) (n : Nat) : Addr := if n ≤ b then f n else 0
def plansF (ks : List Nat) (pl : Nat → List Pl) (f : Nat → Addr) : List (Key × D) := ks.map fun n : Nat => ((.inl (n : Int), .list ((pl n).map (Pl.dH f))) : Key × D)
def edX (CE : Addr) (I : Ix) (X : Nat → Addr) (h : Addr) (f : Nat → Addr) (a e : List Nat) (b : Nat) : Nat → Option O
  | 0 => some (.ins CE I.dx (enFs (.ref h) (.ref (X 1)) (.ref (X 2)) (.ref (X 3))))
  | 1 => some (.dct (plansF I.ks I.pl (cutF b f)))
  | 2 => some (.lst (nD a))
  | 3 => some (.lst (e.map fun n => .ref (f n)))
  | _ => none
def Ix.en (CE : Addr) (I : Ix) : Ed where
  d := fun X => .ref (X 0)
  x := fun X h f a e _ b => edX CE I X h f a e b
  cg := fun {X h f g a e t b} h1 h2 => by
    have hc : cutF b f = cutF b g := funext fun n => by
      unfold cutF
      by_cases z : n ≤ b
      · rw [if_pos z, if_pos z, h2 n z]
      · rw [if_neg z, if_neg z]
    funext i
    unfold edX
    split
    · rfl
    · rw [hc]
    · rfl
    · rw [List.map_congr_left fun n hn => by rw [h1 n hn]]
    · rfl
  lv := fun {X Y h h' f g a a' e e' t t' b b' i} h => by
    unfold edX at h ⊢
    split at h
    · exact nofun
    · exact nofun
    · exact nofun
    · exact nofun
    · exact absurd rfl h
section
variable {P : Program} {w : World} {K : PySem.W.Frag} {mg : Str → Option Value} {base : Heap} {CT CH CE : Addr}
local macro_rules | `(tactic| walk_at "dl") => `(tactic| try simp only [↓x_lcN, ↓x_lcSN, ↓x_catM, ↓x_catMN, ↓x_inO, ↓x_neV, ↓x_sortSet, ↓x_sortDLN, ↓x_lrg, ↓x_neg, ↓x_lcS, ↓x_lockE, ↓x_eqA, ↓x_dictD, ↓x_disp, ↓x_pNil, ↓x_pCons, ↓x_forS, ↓x_diSL, ↓x_diKeys, ↓x_lock, ↓x_dictP, ↓x_fld, ↓x_fldS, ↓x_fldA, ↓x_meth, ↓x_make, ↓x_dget, ↓x_din, ↓x_dget1, ↓x_dget2, ↓x_dpop, ↓x_dput, ↓x_listD, ↓x_sortDI, ↓x_lenD, ↓x_isiC, x_icS, x_icI, x_icB, x_icN, x_ioS, x_ioI, x_ioB, x_ioN, ↓x_gSub, ↓x_sortDL, ↓x_eqO, ↓x_ninA, x_catN, x_isBB, x_isBN, x_isBI, x_isBS, x_isBR, ↓x_seq, ↓x_nx, ↓x_pass, ↓x_brk, ↓x_cnt, ↓x_drop, ↓x_ret, ↓x_retN, ↓x_ifS, ↓x_set, ↓x_asg, ↓x_gN, ↓x_gT, ↓x_gsC, ↓x_gsN, ↓x_var, x_rdv, ↓x_c, ↓x_op, ↓x_test, x_tst, ↓x_and, ↓x_or, ↓x_not, ↓x_andV, ↓x_orV, ↓x_notV, x_tstV, ↓x_ifE, x_true, x_false, ↓x_nil, ↓x_cons, ↓x_tup, ↓x_lst, ↓x_new, ↓x_newD, ↓x_call, ↓x_cb, x_oI, x_oIc, x_oS, x_addS, x_isN, x_notN, x_eqI, x_eqS, x_eqIS, x_eqSI, x_eqNS, x_neI, x_neS, x_neB, x_eqB, x_few, x_need, ↓x_ix, x_lenS, x_ixL0, x_ixT0, x_ixT1, x_ixT2, x_ixT3, x_ixT4, x_lenL, x_lenT, x_lenC, x_listL, x_listT, x_tupL, x_tupT, x_strI, x_strS, x_int1, x_intB, x_I1, x_I2, x_cat, x_catT, ↓x_split, ↓x_for, ↓x_cut, ↓x_lc, ↓x_whl, ↓x_diL, ↓x_diT, ↓x_diS, x_itL, x_itC, x_itT, x_itS, ↓x_diR1, ↓x_diR2, ↓x_diE, x_enmL, x_enmC, ↓x_gcN, ↓x_gcT, ↓x_yes, ↓x_ml, ↓x_ms, x_strq, x_ss, x_ssc, x_ssi, ↓x_join, ↓x_aug, x_st2I, ↓x_sl, ↓x_noP, ↓x_part, x_intq, x_slL, x_slC, x_slS, ↓x_in, x_inT, x_inL, x_ninT, x_ninL, x_inN, x_inSS, x_inSI, x_inIS, x_inII, ↓x_sg, x_sgS, x_nsgS, ↓x_eqD, ↓x_inDD, x_mulS, ↓x_isi, x_isiS, x_isiI, x_isiB, x_isiN, x_isiL, x_isiT, ↓x_isTT, x_itI, x_itStr, x_itN, x_itB, x_itLst, x_itTup, ↓x_any, ↓x_all, ↓x_sum, ↓x_srtI, ↓x_srtS, ↓x_intS, ↓x_lenRf, ↓x_tupRf, ↓x_frz', x_flS, x_flI, x_flN, x_flB, x_cs_bool, x_isB_NoneType_bool, x_isB_bool_bool, x_isB_int_bool, x_isB_str_bool, x_isB_list_bool, x_isB_tuple_bool, x_isB_dict_bool, x_cs_int, x_isB_NoneType_int, x_isB_bool_int, x_isB_int_int, x_isB_str_int, x_isB_list_int, x_isB_tuple_int, x_isB_dict_int, x_cs_str, x_isB_NoneType_str, x_isB_bool_str, x_isB_int_str, x_isB_str_str, x_isB_list_str, x_isB_tuple_str, x_isB_dict_str, x_cs_list, x_isB_NoneType_list, x_isB_bool_list, x_isB_int_list, x_isB_str_list, x_isB_list_list, x_isB_tuple_list, x_isB_dict_list, x_cs_tuple, x_isB_NoneType_tuple, x_isB_bool_tuple, x_isB_int_tuple, x_isB_str_tuple, x_isB_list_tuple, x_isB_tuple_tuple, x_isB_dict_tuple, x_cs_dict, x_isB_NoneType_dict, x_isB_bool_dict, x_isB_int_dict, x_isB_str_dict, x_isB_list_dict, x_isB_tuple_dict, x_isB_dict_dict, List.all_cons, List.all_nil, Bool.and_self, Bool.or_false, Bool.or_true, Bool.false_or, Bool.true_or, wipeD, setD, DL.isNon, List.set_cons_zero, List.set_cons_succ, List.getElem?_cons_zero, List.getElem?_cons_succ, List.length_cons, List.length_nil, Nat.zero_add, List.cons_append, List.nil_append, decide_true, decide_false, Bool.not_true, Bool.not_false, true_and, and_true, startD, List.map_cons, List.map_nil, Nat.reduceSub, Nat.reduceLeDiff, Nat.zero_le, Int.reduceLT, Int.reduceLE, and_self, Nat.reduceAdd, List.replicate])
section
variable {H H' : HA} {I : Ix} {s s' : Hs} {S S' : Sto}
theorem HTr.x0 (T : HTr CT CH (I.en CE) H s S H' s' S') : H'.a (.x 0) = H.a (.x 0) := T.tr.keep (.x 0) nofun nofun
theorem en_e (R : HRep CT CH (I.en CE) H s S) : S (H.a (.x 0)) = some (.ins CE I.dx (enFs (.ref (H.a .hall)) (.ref (H.a (.x 1))) (.ref (H.a (.x 2))) (.ref (H.a (.x 3))))) := R.at_ (l := .x 0) rfl
theorem en_p (R : HRep CT CH (I.en CE) H s S) : S (H.a (.x 1)) = some (.dct (plansF I.ks I.pl (cutF s.base fun n => H.a (.t n)))) := R.at_ (l := .x 1) rfl
theorem en_n (R : HRep CT CH (I.en CE) H s S) : S (H.a (.x 2)) = some (.lst (nD s.asked)) := R.at_ (l := .x 2) rfl
theorem en_o (R : HRep CT CH (I.en CE) H s S) : S (H.a (.x 3)) = some (.lst (s.ends.map fun n => .ref (H.a (.t n)))) := R.at_ (l := .x 3) rfl
end
/-- what may stand in a deed -/
inductive Elm (H : HA) (m : Nat) : D → Option Nat → Prop where
  | th {n : Nat} : 1 ≤ n → n ≤ m → Elm H m (.ref (H.a (.t n))) (some n)
  | no {d : D} : NoTh d → Elm H m d none
def elT (s : Hs) : Option Nat → Bool
  | none => true
  | some n => decide (n ∈ s.there)
def dIsThere (CT CH CE : Addr) : SpD := fun ds S k _ => ∃ (H : HA) (I : Ix) (s : Hs) (x : D) (o : Option Nat) (S0 : Sto), ds = [.ref (H.a (.x 0)), x] ∧ HRep CT CH (I.en CE) H s S0 ∧ Kpt S0 S ∧ Elm H s.many x o ∧ k (.bl (elT s o)) S
theorem ok_is_there {fa : Addr} {fd : FuncData} (F : Fun K "is_there" "Ends.is_there" s_Ends_is_there fa fd) (T : TxE K mg CT CH CE) : FnOk P w K mg base CX0 1 fa fd ["self", "value"] (lSp K (dIsThere CT CH CE)) := by
  refine dok F sc_Ends_is_there (fun ds S q qx ⟨H, I, s, x, o, S0, h, _⟩ => by rw [h]; rfl) ⟨_, fun cdv A outer s H E hr => dss_one (ds_ret (de_or (de_not (de_callB (clIsi' (K := K)) (si_isiC T.ThingI) (by rfl) T.isinstance (by decide +kernel) (da_cons (de_var 1) (da_cons (de_gl (by rfl) T.Thing) da_nil)))) (de_one (de_din (hu_of hr) (de_fld T.Thing_ (by decide +kernel) (de_var 1)) (de_fld T.Hall_ (by decide +kernel) (de_fld T.Ends_ (by decide +kernel) (de_var 0))))))), fun ds S q qx ⟨H, I, s, x, o, S0, hd, R0, kp, he, h⟩ => ?_⟩
  subst hd
  have R := (Kpt.tr R0 kp).rep
  walk_at "dl"
  cases he with
  | no hn => cases hn <;> (walk_at "dl"; exact h)
  | @th n h1 h2 =>
    have et := hrep_t R h1 h2
    rw [x_own et]
    walk_at "dl"
    refine fldOf et th_number ?_
    walk_at "dl"
    refine fldOf (en_e R) en_hall ?_
    walk_at "dl"
    refine fldOf (hrep_hall R) ha_there ?_
    walk_at "dl"
    refine dinOf (hrep_th R) rfl ?_
    rw [there_some]
    exact h
end
end K

set_option Elab.async false
set_option linter.all false
set_option maxRecDepth 100000
namespace HM
open PySem L2 DL
theorem sub_len : ∀ {e o : List Nat}, (∀ i, e.count i ≤ o.count i) → e.length ≤ o.length
  | [], o, _ => Nat.zero_le _
  | a :: e, o, h => by
    have ha : a ∈ o := List.count_pos_iff.mp (by have := h a; rw [List.count_cons_self] at this; omega)
    have := sub_len (e := e) (o := o.erase a) fun i => by
      have h1 := h i
      have h2 := cnt_erase ha i
      rw [List.count_cons] at h1
      by_cases z : i = a
      · subst z
        rw [if_pos rfl] at h2
        simp only [BEq.rfl, if_true] at h1
        omega
      · have : ¬ (a == i) = true := by simpa using Ne.symm z
        rw [if_neg this] at h1
        rw [if_neg z] at h2
        omega
    have h3 := List.length_pos_of_mem ha
    rw [List.length_erase_of_mem ha] at this
    rw [List.length_cons]
    omega
theorem erase_map_inj {f : Nat → Addr} {n : Nat} : ∀ {l : List Nat}, (∀ i ∈ l, f i = f n → i = n) → (l.map f).erase (f n) = (l.erase n).map f
  | [], _ => rfl
  | a :: l, h => by
    rw [List.map_cons, List.erase_cons, List.erase_cons]
    by_cases z : a = n
    · subst z
      simp
    · have : f a ≠ f n := fun e => z (h a (List.mem_cons_self ..) e)
      rw [if_neg (by simpa using this), if_neg (by simpa using z), List.map_cons, erase_map_inj fun i hi => h i (List.mem_cons_of_mem _ hi)]
end HM
namespace K
open PySem L2 Evl EX DL HM
section
variable {P : Program} {w : World} {K : PySem.W.Frag} {mg : Str → Option Value} {base : Heap} {CT CH CE : Addr}
local macro_rules | `(tactic| walk_at "dl") => `(tactic| try simp only [↓x_lcN, ↓x_lcSN, ↓x_catM, ↓x_catMN, ↓x_inO, ↓x_neV, ↓x_sortSet, ↓x_sortDLN, ↓x_lrg, ↓x_neg, ↓x_lcS, ↓x_lockE, ↓x_eqA, ↓x_dictD, ↓x_disp, ↓x_pNil, ↓x_pCons, ↓x_forS, ↓x_diSL, ↓x_diKeys, ↓x_lock, ↓x_dictP, ↓x_fld, ↓x_fldS, ↓x_fldA, ↓x_meth, ↓x_make, ↓x_dget, ↓x_din, ↓x_dget1, ↓x_dget2, ↓x_dpop, ↓x_dput, ↓x_listD, ↓x_sortDI, ↓x_lenD, ↓x_isiC, x_icS, x_icI, x_icB, x_icN, x_ioS, x_ioI, x_ioB, x_ioN, ↓x_gSub, ↓x_sortDL, ↓x_eqO, ↓x_ninA, x_catN, x_isBB, x_isBN, x_isBI, x_isBS, x_isBR, ↓x_seq, ↓x_nx, ↓x_pass, ↓x_brk, ↓x_cnt, ↓x_drop, ↓x_ret, ↓x_retN, ↓x_ifS, ↓x_set, ↓x_asg, ↓x_gN, ↓x_gT, ↓x_gsC, ↓x_gsN, ↓x_var, x_rdv, ↓x_c, ↓x_op, ↓x_test, x_tst, ↓x_and, ↓x_or, ↓x_not, ↓x_andV, ↓x_orV, ↓x_notV, x_tstV, ↓x_ifE, x_true, x_false, ↓x_nil, ↓x_cons, ↓x_tup, ↓x_lst, ↓x_new, ↓x_newD, ↓x_call, ↓x_cb, x_oI, x_oIc, x_oS, x_addS, x_isN, x_notN, x_eqI, x_eqS, x_eqIS, x_eqSI, x_eqNS, x_neI, x_neS, x_neB, x_eqB, x_few, x_need, ↓x_ix, x_lenS, x_ixL0, x_ixT0, x_ixT1, x_ixT2, x_ixT3, x_ixT4, x_lenL, x_lenT, x_lenC, x_listL, x_listT, x_tupL, x_tupT, x_strI, x_strS, x_int1, x_intB, x_I1, x_I2, x_cat, x_catT, ↓x_split, ↓x_for, ↓x_cut, ↓x_lc, ↓x_whl, ↓x_diL, ↓x_diT, ↓x_diS, x_itL, x_itC, x_itT, x_itS, ↓x_diR1, ↓x_diR2, ↓x_diE, x_enmL, x_enmC, ↓x_gcN, ↓x_gcT, ↓x_yes, ↓x_ml, ↓x_ms, x_strq, x_ss, x_ssc, x_ssi, ↓x_join, ↓x_aug, x_st2I, ↓x_sl, ↓x_noP, ↓x_part, x_intq, x_slL, x_slC, x_slS, ↓x_in, x_inT, x_inL, x_ninT, x_ninL, x_inN, x_inSS, x_inSI, x_inIS, x_inII, ↓x_sg, x_sgS, x_nsgS, ↓x_eqD, ↓x_inDD, x_mulS, ↓x_isi, x_isiS, x_isiI, x_isiB, x_isiN, x_isiL, x_isiT, ↓x_isTT, x_itI, x_itStr, x_itN, x_itB, x_itLst, x_itTup, ↓x_any, ↓x_all, ↓x_sum, ↓x_srtI, ↓x_srtS, ↓x_intS, ↓x_lenRf, ↓x_tupRf, ↓x_frz', x_flS, x_flI, x_flN, x_flB, x_cs_bool, x_isB_NoneType_bool, x_isB_bool_bool, x_isB_int_bool, x_isB_str_bool, x_isB_list_bool, x_isB_tuple_bool, x_isB_dict_bool, x_cs_int, x_isB_NoneType_int, x_isB_bool_int, x_isB_int_int, x_isB_str_int, x_isB_list_int, x_isB_tuple_int, x_isB_dict_int, x_cs_str, x_isB_NoneType_str, x_isB_bool_str, x_isB_int_str, x_isB_str_str, x_isB_list_str, x_isB_tuple_str, x_isB_dict_str, x_cs_list, x_isB_NoneType_list, x_isB_bool_list, x_isB_int_list, x_isB_str_list, x_isB_list_list, x_isB_tuple_list, x_isB_dict_list, x_cs_tuple, x_isB_NoneType_tuple, x_isB_bool_tuple, x_isB_int_tuple, x_isB_str_tuple, x_isB_list_tuple, x_isB_tuple_tuple, x_isB_dict_tuple, x_cs_dict, x_isB_NoneType_dict, x_isB_bool_dict, x_isB_int_dict, x_isB_str_dict, x_isB_list_dict, x_isB_tuple_dict, x_isB_dict_dict, List.all_cons, List.all_nil, Bool.and_self, Bool.or_false, Bool.or_true, Bool.false_or, Bool.true_or, wipeD, setD, DL.isNon, List.set_cons_zero, List.set_cons_succ, List.getElem?_cons_zero, List.getElem?_cons_succ, List.length_cons, List.length_nil, Nat.zero_add, List.cons_append, List.nil_append, decide_true, decide_false, Bool.not_true, Bool.not_false, true_and, and_true, startD, List.map_cons, List.map_nil, Nat.reduceSub, Nat.reduceLeDiff, Nat.zero_le, Int.reduceLT, Int.reduceLE, and_self, Nat.reduceAdd, List.replicate])
theorem HTr.ends {I : Ix} {H : HA} {s : Hs} {S : Sto} (R : HRep CT CH (I.en CE) H s S) (l : List Nat) (o : List Nat) : HTr CT CH (I.en CE) H s S H { s with ends := l, outer := o } (put S (H.a (.x 3)) (.lst (l.map fun n => .ref (H.a (.t n))))) :=
  HTr.setAt (s' := { s with ends := l, outer := o }) R (l := .x 3) (o := .lst (s.ends.map fun n => .ref (H.a (.t n)))) (o' := .lst (l.map fun n => .ref (H.a (.t n)))) rfl rfl (fun l' hl => by
    cases l' with
    | x i =>
      show edX CE I (fun i => H.a (.x i)) (H.a .hall) (fun n => H.a (.t n)) s.asked l s.base i = edX CE I (fun i => H.a (.x i)) (H.a .hall) (fun n => H.a (.t n)) s.asked s.ends s.base i
      unfold edX
      split <;> first | rfl | exact absurd rfl hl
    | _ => rfl) rfl
theorem vF_vD (H : HA) (v : Vl) : vF (fun n => H.a (.t n)) v = vD H v := by cases v <;> rfl
/-- promises for any run -/
def xSp (CE : Addr) (f : Ix → SpD) : SpD := fun ds S k x => ∃ I : Ix, I.Ok ∧ f I ds S k x
def dDoE (CT CH CE : Addr) (d : Nat) (I : Ix) : SpD := fun ds S k _ => ∃ (H : HA) (s : Hs) (p : Pl) (s' : Hs), ds = [.ref (H.a (.x 0)), p.dH fun n => H.a (.t n)] ∧ HRep CT CH (I.en CE) H s S ∧ Wf s ∧ s.ends.length ≤ 50000 ∧ p.all s ∧ p.Pk s.many ∧ (∀ v, p ≠ .sweep v) ∧ PlR (askD I.pl I.mp d) p s s' ∧
  ∀ H' S', HTr CT CH (I.en CE) H s S H' s' S' → k .non S'
theorem ok_doE {L d : Nat} (hL : 3 ≤ L) {fa : Addr} {fd : FuncData} (F : Fun K "do" "Ends.do" s_Ends_do fa fd) (T : TxE K mg CT CH CE) (G_Hall_hold : MDef P w K mg base 1 CH "hold" ["self", "value"] (lSp K (xSp CE fun I => dHold CT CH (I.en CE))))
    (G_Hall_make : MDef P w K mg base 3 CH "make" ["self", "form", "own"] (lSp K (xSp CE fun I => dMake CT CH (I.en CE)))) (G_Hall_loose : MDef P w K mg base L CH "loose" ["self", "value"] (lSp K (xSp CE fun I => dLoose CT CH (I.en CE) (askD I.pl I.mp d))))
    (G_Hall_put : MDef P w K mg base (L + 1) CH "put" ["self", "thing", "key", "value"] (lSp K (xSp CE fun I => dPut CT CH (I.en CE) (askD I.pl I.mp d)))) (G_Hall_take : MDef P w K mg base (L + 1) CH "take" ["self", "thing", "key"] (lSp K (xSp CE fun I => dTake CT CH (I.en CE) (askD I.pl I.mp d)))) :
    FnOk P w K mg base CX0 (L + 2) fa fd ["self", "deed"] (lSp K (xSp CE (dDoE CT CH CE d))) := by
  refine dok F sc_Ends_do (fun ds S q qx ⟨I, hI, H, s, p, s', h, _⟩ => by rw [h]; rfl) ⟨_, fun cdv A outer s H E hr => dss_one (ds_if (dt_cmp op_eq si_eq (de_ix ix_seq (si_ix rfl) (de_var 1) (de_int) (fun _ _ => rfl)) (de_str) (nomark _))
        (dss_cons (ds_expr (de_meth T.Hall_ G_Hall_hold (hr.mono (by omega)) (de_fld T.Ends_ (by decide +kernel) (de_var 0)) (da_cons (de_ix ix_seq (si_ix rfl) (de_var 1) (de_int) (fun _ _ => rfl)) da_nil)))
        (dss_one (ds_expr (de_ml PySem.F.slot_list_append PySem.F.type_list_append mt_append si_app (de_fld T.Ends_ (by decide +kernel) (de_var 0)) (da_cons (de_ix ix_seq (si_ix rfl) (de_var 1) (de_int) (fun _ _ => rfl)) da_nil)))))
        (dss_one (ds_if (PW.pt (dw_and (dt_cmp op_eq si_eq (de_ix ix_seq (si_ix rfl) (de_var 1) (de_int) (fun _ _ => rfl)) (de_str) (nomark _)) (dw_and1 (dt_cmp (op_inO (K := K) T.ThingE (hu65 hr)) (si_inO false) (de_ix ix_seq (si_ix rfl) (de_var 1) (de_int) (fun _ _ => rfl)) (de_fld T.Ends_ (by decide +kernel) (de_var 0)) (by rfl)))))
          (dss_cons (ds_expr (de_ml PySem.F.slot_list_remove PySem.F.type_list_remove (mt_removeO (K := K) T.ThingE (hu65 hr)) si_remO (de_fld T.Ends_ (by decide +kernel) (de_var 0)) (da_cons (de_ix ix_seq (si_ix rfl) (de_var 1) (de_int) (fun _ _ => rfl)) da_nil)))
          (dss_one (ds_expr (de_meth T.Hall_ G_Hall_loose (hr.mono (by omega)) (de_fld T.Ends_ (by decide +kernel) (de_var 0)) (da_cons (de_ix ix_seq (si_ix rfl) (de_var 1) (de_int) (fun _ _ => rfl)) da_nil)))))
          (dss_one (ds_if (dt_cmp op_eq si_eq (de_ix ix_seq (si_ix rfl) (de_var 1) (de_int) (fun _ _ => rfl)) (de_str) (nomark _))
            (dss_one (ds_expr (de_meth T.Hall_ G_Hall_put (hr.mono (by omega)) (de_fld T.Ends_ (by decide +kernel) (de_var 0)) (da_cons (de_ix ix_seq (si_ix rfl) (de_var 1) (de_int) (fun _ _ => rfl)) (da_cons (de_ix ix_seq (si_ix rfl) (de_var 1) (de_int) (fun _ _ => rfl)) (da_cons (de_ix ix_seq (si_ix rfl) (de_var 1) (de_int) (fun _ _ => rfl)) da_nil))))))
            (dss_one (ds_if (PW.pt (dw_and (dt_cmp op_eq si_eq (de_ix ix_seq (si_ix rfl) (de_var 1) (de_int) (fun _ _ => rfl)) (de_str) (nomark _)) (dw_and1 (dt_din (hu_of hr) (de_ix ix_seq (si_ix rfl) (de_var 1) (de_int) (fun _ _ => rfl)) (de_fld T.Thing_ (by decide +kernel) (de_ix ix_seq (si_ix rfl) (de_var 1) (de_int) (fun _ _ => rfl)))))))
              (dss_one (ds_expr (de_meth T.Hall_ G_Hall_take (hr.mono (by omega)) (de_fld T.Ends_ (by decide +kernel) (de_var 0)) (da_cons (de_ix ix_seq (si_ix rfl) (de_var 1) (de_int) (fun _ _ => rfl)) (da_cons (de_ix ix_seq (si_ix rfl) (de_var 1) (de_int) (fun _ _ => rfl)) da_nil)))))
              (dss_one (ds_if (dt_cmp op_eq si_eq (de_ix ix_seq (si_ix rfl) (de_var 1) (de_int) (fun _ _ => rfl)) (de_str) (nomark _))
                (dss_one (ds_expr (de_meth T.Hall_ G_Hall_put (hr.mono (by omega)) (de_fld T.Ends_ (by decide +kernel) (de_var 0)) (da_cons (de_ix ix_seq (si_ix rfl) (de_var 1) (de_int) (fun _ _ => rfl)) (da_cons (de_ix ix_seq (si_ix rfl) (de_var 1) (de_int) (fun _ _ => rfl)) (da_cons (de_meth T.Hall_ G_Hall_make (hr.mono (by omega)) (de_fld T.Ends_ (by decide +kernel) (de_var 0)) (da_cons (de_str) (da_cons (de_non) da_nil))) da_nil))))))
                (dss_one (ds_if (dt_cmp op_eq si_eq (de_ix ix_seq (si_ix rfl) (de_var 1) (de_int) (fun _ _ => rfl)) (de_str) (nomark _))
                  (dss_one (ds_never))
                  (dss_nil)))))))))))), fun ds S q qx ⟨I, hI, H, s, p, s', hd, R, W, hel, hall, hpk, hns, hp, h⟩ => ?_⟩
  subst hd
  cases p with
  | hold n =>
    obtain ⟨h1, h2⟩ := hpk
    have hn := hall n (by simp [Pl.ths])
    unfold Pl.dH
    walk_at "dl"
    refine fldOf (en_e R) en_hall ?_
    walk_at "dl"
    refine needOf (methOf (x := .non) (hrep_hall R) rfl) ?_
    walk_at "dl"
    refine ⟨I, hI, H, s, .th n, rfl, R, ⟨h1, h2⟩, fun S1 T1 => ?_⟩
    have R1 := T1.rep
    walk_at "dl"
    refine fldOf (en_e R1) en_holds ?_
    walk_at "dl"
    refine needOf (isLOf (en_o R1)) ?_
    walk_at "dl"
    refine appOf (en_o R1) (by rw [List.length_map]; show s.ends.length < _; omega) ?_
    cases hp with
    | pass hn' => exact absurd hall hn'
    | hold _ =>
      have T2 := HTr.ends R1 (s.ends ++ [n]) (s.outer ++ [n])
      rw [List.map_append] at T2
      exact h H _ (T1.trans T2)
  | loose n =>
    obtain ⟨h1, h2⟩ := hpk
    have hn := hall n (by simp [Pl.ths])
    have e1 : decide (Str.ofString "loose" = Str.ofString "hold") = false := by decide +kernel
    have e2 : decide (Str.ofString "loose" = Str.ofString "put") = false := by decide +kernel
    have e3 : decide (Str.ofString "loose" = Str.ofString "take") = false := by decide +kernel
    have e4 : decide (Str.ofString "loose" = Str.ofString "make") = false := by decide +kernel
    have e5 : decide (Str.ofString "loose" = Str.ofString "sweep") = false := by decide +kernel
    have hinj : ∀ i ∈ s.ends, H.a (.t i) = H.a (.t n) → i = n := fun i hi e => by
      have := W.eb i hi
      have := R.inj (nn (hC_t this.1 this.2)) (nn (hC_t h1 h2)) e
      cases this
      rfl
    have hia : InsAll S CT (s.ends.map fun n => H.a (.t n)) := fun a ha => by
      obtain ⟨i, hi, rfl⟩ := List.mem_map.mp ha
      have := W.eb i hi
      exact ⟨_, _, hrep_t R this.1 this.2⟩
    have eo := en_o R
    have emp : s.ends.map (fun n => D.ref (H.a (.t n))) = (s.ends.map fun n => H.a (.t n)).map D.ref := by rw [List.map_map]; rfl
    rw [emp] at eo
    have emem : decide (H.a (.t n) ∈ s.ends.map fun n => H.a (.t n)) = decide (n ∈ s.ends) := decide_eq_decide.mpr ⟨fun hm => by
      obtain ⟨i, hi, e⟩ := List.mem_map.mp hm
      rw [← hinj i hi e]; exact hi, fun hm => List.mem_map.mpr ⟨n, hm, rfl⟩⟩
    unfold Pl.dH
    walk_at "dl"
    rw [e1]
    walk_at "dl"
    refine fldOf (en_e R) en_holds ?_
    walk_at "dl"
    refine inOOf (.inr ⟨_, rfl, eo⟩) (fun a ha => by
      rcases List.mem_cons.mp ha with rfl | ha
      · exact ⟨_, _, hrep_t R h1 h2⟩
      · exact hia a ha) ?_
    rw [emem]
    walk_at "dl"
    refine br (fun hb => ?_) (fun hb => ?_)
    · have he := of_decide_eq_true hb
      walk_at "dl"
      refine fldOf (en_e R) en_holds ?_
      walk_at "dl"
      refine needOf (isLOf eo) ?_
      walk_at "dl"
      refine remOOf eo hia (List.mem_map.mpr ⟨n, he, rfl⟩) ?_
      have T1 := HTr.ends R (s.ends.erase n) (s.outer.erase n)
      have em2 : ((s.ends.map fun n => H.a (.t n)).erase (H.a (.t n))).map D.ref = (s.ends.erase n).map fun n => D.ref (H.a (.t n)) := by
        rw [erase_map_inj (f := fun n => H.a (.t n)) hinj, List.map_map]
        rfl
      rw [em2]
      have R1 := T1.rep
      have W1 : Wf (s.unheldE n) := ⟨W.nd, W.tin, W.len, W.most, W.key, W.plen, W.pv, W.wnd, W.win, W.rnd, W.pz, W.az, W.kok, fun i hi => W.eb i (List.mem_of_mem_erase hi), W.an, W.bs⟩
      cases hp with
      | pass hn' => exact absurd hall hn'
      | looseNo _ hn' => exact absurd he hn'
      | loose _ _ t =>
        walk_at "dl"
        refine fldOf (en_e R1) en_hall ?_
        walk_at "dl"
        refine needOf (methOf (x := .non) (hrep_hall R1) rfl) ?_
        walk_at "dl"
        exact ⟨I, hI, H, s.unheldE n, .th n, s', rfl, R1, W1, ⟨h1, h2⟩, t, fun H2 S2 T2 => h H2 S2 (T1.trans T2)⟩
    · have he := of_decide_eq_false hb
      walk_at "dl"
      rw [e2]
      walk_at "dl"
      rw [e3]
      walk_at "dl"
      rw [e4]
      walk_at "dl"
      rw [e5]
      walk_at "dl"
      cases hp with
      | pass hn' => exact absurd hall hn'
      | looseNo _ _ => exact h H S (HTr.refl R)
      | loose _ hn' _ => exact absurd hn' he
  | sweep v => exact absurd rfl (hns v)
  | part dd =>
    cases dd with
    | put n k v =>
      obtain ⟨h1, h2, h3, h4⟩ := hpk
      have e1 : decide (Str.ofString "put" = Str.ofString "hold") = false := by decide +kernel
      have e2 : decide (Str.ofString "put" = Str.ofString "loose") = false := by decide +kernel
      cases hp with
      | pass hn' => exact absurd hall hn'
      | part _ ok hk r =>
        cases r with
        | put t =>
          obtain ⟨o1, o2, o3, o4⟩ := ok
          unfold Pl.dH
          walk_at "dl"
          rw [e1]
          walk_at "dl"
          rw [e2]
          walk_at "dl"
          refine fldOf (en_e R) en_hall ?_
          walk_at "dl"
          refine needOf (methOf (x := .non) (hrep_hall R) rfl) ?_
          walk_at "dl"
          exact ⟨I, hI, H, s, n, dK k, k, v, s', by rw [← vF_vD], R, W, h1, h2, keyD_dK k, o2, o3, o4, t, h⟩
    | take n k =>
      obtain ⟨h1, h2, h3⟩ := hpk
      have e1 : decide (Str.ofString "take" = Str.ofString "hold") = false := by decide +kernel
      have e2 : decide (Str.ofString "take" = Str.ofString "loose") = false := by decide +kernel
      have e3 : decide (Str.ofString "take" = Str.ofString "put") = false := by decide +kernel
      have e5 : decide (Str.ofString "take" = Str.ofString "make") = false := by decide +kernel
      have e6 : decide (Str.ofString "take" = Str.ofString "sweep") = false := by decide +kernel
      cases hp with
      | pass hn' => exact absurd hall hn'
      | part _ ok hk r =>
        unfold Pl.dH
        walk_at "dl"
        rw [e1]
        walk_at "dl"
        rw [e2]
        walk_at "dl"
        rw [e3]
        walk_at "dl"
        refine fldOf (hrep_t R h1 h2) th_parts ?_
        walk_at "dl"
        refine dinOf (hrep_pd R h1 h2) (keyD_dK k) ?_
        rw [gval_vD, Option.isSome_map]
        cases r with
        | none hv =>
          rw [hv, Option.isSome_none]
          walk_at "dl"
          rw [e5]
          walk_at "dl"
          rw [e6]
          walk_at "dl"
          exact h H S (HTr.refl R)
        | take hv t =>
          rw [hv, Option.isSome_some]
          walk_at "dl"
          refine fldOf (en_e R) en_hall ?_
          walk_at "dl"
          refine needOf (methOf (x := .non) (hrep_hall R) rfl) ?_
          walk_at "dl"
          exact ⟨I, hI, H, s, n, dK k, k, _, s', rfl, R, W, h1, h2, keyD_dK k, hv, t, h⟩
    | make n k =>
      obtain ⟨h1, h2, h3⟩ := hpk
      have e1 : decide (Str.ofString "make" = Str.ofString "hold") = false := by decide +kernel
      have e2 : decide (Str.ofString "make" = Str.ofString "loose") = false := by decide +kernel
      have e3 : decide (Str.ofString "make" = Str.ofString "put") = false := by decide +kernel
      have e4 : decide (Str.ofString "make" = Str.ofString "take") = false := by decide +kernel
      cases hp with
      | pass hn' => exact absurd hall hn'
      | part _ ok hk r =>
        cases r with
        | make t =>
          obtain ⟨o1, o2, o3, o4⟩ := ok
          unfold Pl.dH
          walk_at "dl"
          rw [e1]
          walk_at "dl"
          rw [e2]
          walk_at "dl"
          rw [e3]
          walk_at "dl"
          rw [e4]
          walk_at "dl"
          refine fldOf (en_e R) en_hall ?_
          walk_at "dl"
          refine needOf (methOf (x := .non) (hrep_hall R) rfl) ?_
          walk_at "dl"
          refine fldOf (en_e R) en_hall ?_
          walk_at "dl"
          refine needOf (methOf (x := .non) (hrep_hall R) rfl) ?_
          walk_at "dl"
          refine ⟨I, hI, H, s, Str.ofString "made", .non, rfl, R, W, fun H1 S1 T1 => ?_⟩
          have hm : s.many ≤ (Hs.madeIn s).many := Nat.le_succ _
          walk_at "dl"
          exact ⟨I, hI, H1, Hs.madeIn s, n, dK k, k, .th (s.many + 1), s', by rw [T1.hall, T1.t h1 h2]; rfl, T1.rep, W.made o3 _ _, h1, Nat.le_trans h2 hm, keyD_dK k, o2, ⟨Nat.succ_le_succ (Nat.zero_le _), Nat.le_refl _⟩, o4, t, fun H2 S2 T2 => h H2 S2 (T1.trans T2)⟩
end
end K

set_option Elab.async false
set_option linter.all false
set_option maxRecDepth 100000
namespace HM
open PySem L2 DL
theorem dH_congr {f g : Nat → Addr} {m : Nat} (h : ∀ j, 1 ≤ j → j ≤ m → f j = g j) {p : Pl} (hp : p.Pk m) : p.dH f = p.dH g := by
  have hv : ∀ {v : Vl}, VOk m v → vF f v = vF g v := fun {v} hv => by
    cases v with
    | no d => rfl
    | th j => show D.ref _ = D.ref _; rw [h j hv.1 hv.2]
  cases p with
  | hold n => simp only [Pl.dH, h n hp.1 hp.2]
  | loose n => simp only [Pl.dH, h n hp.1 hp.2]
  | sweep v => simp only [Pl.dH, hv hp]
  | part d =>
    cases d with
    | put n k v => simp only [Pl.dH, h n hp.1 hp.2.1, hv hp.2.2.2]
    | take n k => simp only [Pl.dH, h n hp.1 hp.2.1]
    | make n k => simp only [Pl.dH, h n hp.1 hp.2.1]
theorem asked_len {s : Hs} (w : Wf s) : s.asked.length ≤ 5001 := by
  have key : ∀ (m : Nat) (l : List Nat), l.Nodup → (∀ n ∈ l, n ≤ m) → l.length ≤ m + 1 := by
    intro m
    induction m with
    | zero =>
      intro l nd h
      cases l with
      | nil => exact Nat.zero_le _
      | cons a l =>
        cases l with
        | nil => exact Nat.le_refl _
        | cons b l =>
          have h1 := h a (List.mem_cons_self ..)
          have h2 := h b (List.mem_cons_of_mem _ (List.mem_cons_self ..))
          rw [List.nodup_cons] at nd
          exact absurd (show a ∈ b :: l by rw [show a = b by omega]; exact List.mem_cons_self ..) nd.1
    | succ m ih =>
      intro l nd h
      have h1 := ih (l.erase (m + 1)) (nd.erase _) fun n hn => by
        have := h n (List.mem_of_mem_erase hn)
        have h3 : n ≠ m + 1 := fun e => by subst e; exact nd.not_mem_erase hn
        omega
      have : l.length ≤ (l.erase (m + 1)).length + 1 := by
        by_cases z : m + 1 ∈ l
        · rw [List.length_erase_of_mem z]; omega
        · rw [List.erase_of_not_mem z]; omega
      omega
  have := key s.many s.asked w.an w.az
  have := w.most
  omega
theorem Pk_mono {m m' : Nat} (h : m ≤ m') {p : Pl} (hp : p.Pk m) : p.Pk m' := by
  have hv : ∀ {v : Vl}, VOk m v → VOk m' v := fun {v} hv => by
    cases v with
    | no d => exact hv
    | th j => exact ⟨hv.1, Nat.le_trans hv.2 h⟩
  cases p with
  | hold n => exact ⟨hp.1, Nat.le_trans hp.2 h⟩
  | loose n => exact ⟨hp.1, Nat.le_trans hp.2 h⟩
  | sweep v => exact hv hp
  | part d =>
    cases d with
    | put n k v => exact ⟨hp.1, Nat.le_trans hp.2.1 h, hp.2.2.1, hv hp.2.2.2⟩
    | take n k => exact ⟨hp.1, Nat.le_trans hp.2.1 h, hp.2.2⟩
    | make n k => exact ⟨hp.1, Nat.le_trans hp.2.1 h, hp.2.2⟩
end HM
namespace K
open PySem L2 Evl EX DL HM
theorem noTh_key {k : Key} (h : k ∈ K6) : NoTh (dK k) := by
  unfold K6 at h
  simp only [List.mem_cons, List.not_mem_nil, or_false] at h
  rcases h with rfl | rfl | rfl | rfl | rfl | rfl | rfl | rfl | rfl
  · exact .str _ (by decide +kernel)
  · exact .str _ (by decide +kernel)
  · exact .str _ (by decide +kernel)
  · exact .int _
  · exact .int _
  · exact .int _
  · exact .str _ (by decide +kernel)
  · exact .str _ (by decide +kernel)
  · exact .int _
/-- what stands in a planned deed, thing by thing -/
theorem dH_els {H : HA} {m : Nat} {p : Pl} (hp : p.Pk m) : ∃ (es : List D) (os : List (Option Nat)), (p.dH fun n => H.a (.t n)) = .tup es ∧ es.length = os.length ∧ es.length ≤ 4 ∧ (∀ (i : Nat) (e : D) (o : Option Nat), es[i]? = some e → os[i]? = some o → Elm H m e o) ∧ ∀ s : Hs, os.all (elT s) = true ↔ p.all s := by
  have two : ∀ (z : String) (n : Nat), PyData.strOk (Str.ofString z) = true → 1 ≤ n → n ≤ m → ∀ (i : Nat) (e : D) (o : Option Nat), ([.str (Str.ofString z), .ref (H.a (.t n))] : List D)[i]? = some e → ([none, some n] : List (Option Nat))[i]? = some o → Elm H m e o := fun z n hz h1 h2 i e o he ho => by
    rcases i with _ | _ | i
    · cases he; cases ho; exact .no (.str _ hz)
    · cases he; cases ho; exact .th h1 h2
    · cases he
  have three : ∀ (z : String) (n : Nat) (k : Key), PyData.strOk (Str.ofString z) = true → 1 ≤ n → n ≤ m → k ∈ K6 → ∀ (i : Nat) (e : D) (o : Option Nat), ([.str (Str.ofString z), .ref (H.a (.t n)), dK k] : List D)[i]? = some e → ([none, some n, none] : List (Option Nat))[i]? = some o → Elm H m e o := fun z n k hz h1 h2 hk i e o he ho => by
    rcases i with _ | _ | _ | i
    · cases he; cases ho; exact .no (.str _ hz)
    · cases he; cases ho; exact .th h1 h2
    · cases he; cases ho; exact .no (noTh_key hk)
    · cases he
  cases p with
  | hold n => exact ⟨_, [none, some n], rfl, rfl, Nat.le_of_ble_eq_true rfl, two "hold" n (by decide +kernel) hp.1 hp.2, fun s => by simp [elT, Pl.all, Pl.ths]⟩
  | loose n => exact ⟨_, [none, some n], rfl, rfl, Nat.le_of_ble_eq_true rfl, two "loose" n (by decide +kernel) hp.1 hp.2, fun s => by simp [elT, Pl.all, Pl.ths]⟩
  | sweep v =>
    cases v with
    | no d =>
      refine ⟨_, [none, none], rfl, rfl, Nat.le_of_ble_eq_true rfl, fun i e o he ho => ?_, fun s => by simp [elT, Pl.all, Pl.ths]⟩
      rcases i with _ | _ | i
      · cases he; cases ho; exact .no (.str _ (by decide +kernel))
      · cases he; cases ho; exact .no hp
      · cases he
    | th n => exact ⟨_, [none, some n], rfl, rfl, Nat.le_of_ble_eq_true rfl, two "sweep" n (by decide +kernel) hp.1 hp.2, fun s => by simp [elT, Pl.all, Pl.ths]⟩
  | part d =>
    cases d with
    | take n k => exact ⟨_, [none, some n, none], rfl, rfl, Nat.le_of_ble_eq_true rfl, three "take" n k (by decide +kernel) hp.1 hp.2.1 hp.2.2, fun s => by simp [elT, Pl.all, Pl.ths]⟩
    | make n k => exact ⟨_, [none, some n, none], rfl, rfl, Nat.le_of_ble_eq_true rfl, three "make" n k (by decide +kernel) hp.1 hp.2.1 hp.2.2, fun s => by simp [elT, Pl.all, Pl.ths]⟩
    | put n k v =>
      obtain ⟨h1, h2, h3, h4⟩ := hp
      cases v with
      | no d =>
        refine ⟨_, [none, some n, none, none], rfl, rfl, Nat.le_of_ble_eq_true rfl, fun i e o he ho => ?_, fun s => by simp [elT, Pl.all, Pl.ths]⟩
        rcases i with _ | _ | _ | _ | i
        · cases he; cases ho; exact .no (.str _ (by decide +kernel))
        · cases he; cases ho; exact .th h1 h2
        · cases he; cases ho; exact .no (noTh_key h3)
        · cases he; cases ho; exact .no h4
        · cases he
      | th j =>
        refine ⟨_, [none, some n, none, some j], rfl, rfl, Nat.le_of_ble_eq_true rfl, fun i e o he ho => ?_, fun s => by simp [elT, Pl.all, Pl.ths]⟩
        rcases i with _ | _ | _ | _ | i
        · cases he; cases ho; exact .no (.str _ (by decide +kernel))
        · cases he; cases ho; exact .th h1 h2
        · cases he; cases ho; exact .no (noTh_key h3)
        · cases he; cases ho; exact .th h4.1 h4.2
        · cases he
section
variable {P : Program} {w : World} {K : PySem.W.Frag} {mg : Str → Option Value} {base : Heap} {CT CH CE : Addr}
local macro_rules | `(tactic| walk_at "dl") => `(tactic| try simp only [↓x_lcN, ↓x_lcSN, ↓x_catM, ↓x_catMN, ↓x_inO, ↓x_neV, ↓x_sortSet, ↓x_sortDLN, ↓x_lrg, ↓x_neg, ↓x_lcS, ↓x_lockE, ↓x_eqA, ↓x_dictD, ↓x_disp, ↓x_pNil, ↓x_pCons, ↓x_forS, ↓x_diSL, ↓x_diKeys, ↓x_lock, ↓x_dictP, ↓x_fld, ↓x_fldS, ↓x_fldA, ↓x_meth, ↓x_make, ↓x_dget, ↓x_din, ↓x_dget1, ↓x_dget2, ↓x_dpop, ↓x_dput, ↓x_listD, ↓x_sortDI, ↓x_lenD, ↓x_isiC, x_icS, x_icI, x_icB, x_icN, x_ioS, x_ioI, x_ioB, x_ioN, ↓x_gSub, ↓x_sortDL, ↓x_eqO, ↓x_ninA, x_catN, x_isBB, x_isBN, x_isBI, x_isBS, x_isBR, ↓x_seq, ↓x_nx, ↓x_pass, ↓x_brk, ↓x_cnt, ↓x_drop, ↓x_ret, ↓x_retN, ↓x_ifS, ↓x_set, ↓x_asg, ↓x_gN, ↓x_gT, ↓x_gsC, ↓x_gsN, ↓x_var, x_rdv, ↓x_c, ↓x_op, ↓x_test, x_tst, ↓x_and, ↓x_or, ↓x_not, ↓x_andV, ↓x_orV, ↓x_notV, x_tstV, ↓x_ifE, x_true, x_false, ↓x_nil, ↓x_cons, ↓x_tup, ↓x_lst, ↓x_new, ↓x_newD, ↓x_call, ↓x_cb, x_oI, x_oIc, x_oS, x_addS, x_isN, x_notN, x_eqI, x_eqS, x_eqIS, x_eqSI, x_eqNS, x_neI, x_neS, x_neB, x_eqB, x_few, x_need, ↓x_ix, x_lenS, x_ixL0, x_ixT0, x_ixT1, x_ixT2, x_ixT3, x_ixT4, x_lenL, x_lenT, x_lenC, x_listL, x_listT, x_tupL, x_tupT, x_strI, x_strS, x_int1, x_intB, x_I1, x_I2, x_cat, x_catT, ↓x_split, ↓x_for, ↓x_cut, ↓x_lc, ↓x_whl, ↓x_diL, ↓x_diT, ↓x_diS, x_itL, x_itC, x_itT, x_itS, ↓x_diR1, ↓x_diR2, ↓x_diE, x_enmL, x_enmC, ↓x_gcN, ↓x_gcT, ↓x_yes, ↓x_ml, ↓x_ms, x_strq, x_ss, x_ssc, x_ssi, ↓x_join, ↓x_aug, x_st2I, ↓x_sl, ↓x_noP, ↓x_part, x_intq, x_slL, x_slC, x_slS, ↓x_in, x_inT, x_inL, x_ninT, x_ninL, x_inN, x_inSS, x_inSI, x_inIS, x_inII, ↓x_sg, x_sgS, x_nsgS, ↓x_eqD, ↓x_inDD, x_mulS, ↓x_isi, x_isiS, x_isiI, x_isiB, x_isiN, x_isiL, x_isiT, ↓x_isTT, x_itI, x_itStr, x_itN, x_itB, x_itLst, x_itTup, ↓x_any, ↓x_all, ↓x_sum, ↓x_srtI, ↓x_srtS, ↓x_intS, ↓x_lenRf, ↓x_tupRf, ↓x_frz', x_flS, x_flI, x_flN, x_flB, x_cs_bool, x_isB_NoneType_bool, x_isB_bool_bool, x_isB_int_bool, x_isB_str_bool, x_isB_list_bool, x_isB_tuple_bool, x_isB_dict_bool, x_cs_int, x_isB_NoneType_int, x_isB_bool_int, x_isB_int_int, x_isB_str_int, x_isB_list_int, x_isB_tuple_int, x_isB_dict_int, x_cs_str, x_isB_NoneType_str, x_isB_bool_str, x_isB_int_str, x_isB_str_str, x_isB_list_str, x_isB_tuple_str, x_isB_dict_str, x_cs_list, x_isB_NoneType_list, x_isB_bool_list, x_isB_int_list, x_isB_str_list, x_isB_list_list, x_isB_tuple_list, x_isB_dict_list, x_cs_tuple, x_isB_NoneType_tuple, x_isB_bool_tuple, x_isB_int_tuple, x_isB_str_tuple, x_isB_list_tuple, x_isB_tuple_tuple, x_isB_dict_tuple, x_cs_dict, x_isB_NoneType_dict, x_isB_bool_dict, x_isB_int_dict, x_isB_str_dict, x_isB_list_dict, x_isB_tuple_dict, x_isB_dict_dict, List.all_cons, List.all_nil, Bool.and_self, Bool.or_false, Bool.or_true, Bool.false_or, Bool.true_or, wipeD, setD, DL.isNon, List.set_cons_zero, List.set_cons_succ, List.getElem?_cons_zero, List.getElem?_cons_succ, List.length_cons, List.length_nil, Nat.zero_add, List.cons_append, List.nil_append, decide_true, decide_false, Bool.not_true, Bool.not_false, true_and, and_true, startD, List.map_cons, List.map_nil, Nat.reduceSub, Nat.reduceLeDiff, Nat.zero_le, Int.reduceLT, Int.reduceLE, and_self, Nat.reduceAdd, List.replicate])
/-- the hall while a last is asked, its number not noted yet -/
def lagC (CT CH : Addr) (en : Ed) (H : HA) (s : Hs) (n : Nat) : HL → Option O := fun l => if l = .x 2 then some (.lst (nD s.asked)) else hC CT CH en H (s.asking n) l
theorem plansF_get {I : Ix} (hI : I.Ok) (f : Nat → Addr) (n : Nat) : (gval (plansF I.ks I.pl f) (.inl (n : Int))).getD (.list []) = .list ((I.pl n).map (Pl.dH f)) := by
  have key : ∀ ks : List Nat, (n ∉ ks → I.pl n = []) → (gval (ks.map fun n : Nat => ((.inl (n : Int), .list ((I.pl n).map (Pl.dH f))) : Key × D)) (.inl (n : Int))).getD (.list []) = .list ((I.pl n).map (Pl.dH f)) := by
    intro ks
    induction ks with
    | nil => intro h; rw [h nofun]; rfl
    | cons a ks ih =>
      intro h
      by_cases z : a = n
      · subst z
        simp [gval, List.find?_cons]
      · have e : gval ((a :: ks).map fun n : Nat => ((.inl (n : Int), .list ((I.pl n).map (Pl.dH f))) : Key × D)) (.inl (n : Int)) = gval (ks.map fun n : Nat => ((.inl (n : Int), .list ((I.pl n).map (Pl.dH f))) : Key × D)) (.inl (n : Int)) := by
          have : ¬ (a : Int) = (n : Int) := by omega
          simp [gval, List.find?_cons, this]
        rw [e]
        exact ih fun hn => h fun hm => (List.mem_cons.mp hm).elim (fun e => z e.symm) hn
  exact key I.ks (hI.D n)
def dLastE (CT CH CE : Addr) (d : Nat) (I : Ix) : SpD := fun ds S k _ => ∃ (H : HA) (s : Hs) (n : Nat) (s1 : Hs), ds = [.ref (H.a (.x 0)), .ref (H.a (.t n))] ∧ Rep H.a (lagC CT CH (I.en CE) H s n) S ∧ Wf (s.asking n) ∧ Good (s.asking n) ∧ Slk s ∧ n ∈ s.there ∧ n ∉ s.asked ∧ Gx I.pl I.mp s ∧
  PlsR (askD I.pl I.mp d) (I.pl n) (s.asking n) s1 ∧ ∀ H' S', Tr (fun l => l ≠ HL.row) H.a (lagC CT CH (I.en CE) H s n) S H'.a (hC CT CH (I.en CE) H' s1) S' → s.many ≤ s1.many → k .non S'
theorem ok_lastE {L d : Nat} (hL : 1 ≤ L) {fa : Addr} {fd : FuncData} (F : Fun K "last" "Ends.last" s_Ends_last fa fd) (T : TxE K mg CT CH CE) (G_Ends_is_there : MDef P w K mg base 1 CE "is_there" ["self", "value"] (lSp K (dIsThere CT CH CE))) (G_Ends_do : MDef P w K mg base L CE "do" ["self", "deed"] (lSp K (xSp CE (dDoE CT CH CE d)))) :
    FnOk P w K mg base CX0 (L + 1) fa fd ["self", "thing"] (lSp K (xSp CE (dLastE CT CH CE d))) := by
  refine dok F sc_Ends_last (fun ds S q qx ⟨I, hI, H, s, n, s1, h, _⟩ => by rw [h]; rfl) ⟨_, fun cdv A outer s H E hr => dss_cons (ds_expr (de_ml PySem.F.slot_list_append PySem.F.type_list_append mt_append si_app (de_fld T.Ends_ (by decide +kernel) (de_var 0)) (da_cons (de_fld T.Thing_ (by decide +kernel) (de_var 1)) da_nil)))
      (dss_one (ds_for PassesOwn.never rfl (di_list (K := K) (de_dgets2 (hu_of hr) (de_fld T.Ends_ (by decide +kernel) (de_var 0)) (de_fld T.Thing_ (by decide +kernel) (de_var 1)) (de_lst (da_nil)))) (dg_name (i := 2) sc_Ends_last.nd rfl (Or.inl rfl))
        (dss_one (ds_if (dt_val (de_callB (crAll (K := K)) si_all (by rfl) T.all (by decide +kernel) (da_cons (de_lc (own := [("one", 3)]) (gc_name (j := 3) (by decide)) rfl sc_Ends_last.nd (di_tup (K := K) (de_var 2)) (blkOk_by (N := N_Ends_last) (sc := defScope s_Ends_last) (by decide +kernel)) (fun _ _ _ _ _ => pg_name (i := 3) sc_Ends_last.nd rfl (Or.inl rfl)) (fun _ _ _ _ _ => dts_nil) (fun _ _ _ _ _ => de_meth T.Ends_ G_Ends_is_there (hr.mono (by omega)) (de_var 0) (da_cons (de_var 3) da_nil))) da_nil)))
          (dss_one (ds_expr (de_meth T.Ends_ G_Ends_do (hr.mono (by omega)) (de_var 0) (da_cons (de_var 2) da_nil))))
          (dss_nil))))), fun ds S q qx ⟨I, hI, H, s, n, s1, hd, R, W, G, sl, hn, hna, gx, hp, h⟩ => ?_⟩
  subst hd
  have hb := W.tin n hn
  have lc : ∀ {l}, l ≠ HL.x 2 → lagC CT CH (I.en CE) H s n l = hC CT CH (I.en CE) H (s.asking n) l := fun h => if_neg h
  have ee : S (H.a (.x 0)) = some (.ins CE I.dx (enFs (.ref (H.a .hall)) (.ref (H.a (.x 1))) (.ref (H.a (.x 2))) (.ref (H.a (.x 3))))) := R.at_ (l := .x 0) (lc (l := .x 0) (by simp))
  have et := R.at_ (l := .t n) ((lc (l := .t n) nofun).trans (hC_t hb.1 hb.2))
  have enn : S (H.a (.x 2)) = some (.lst (nD s.asked)) := R.at_ (l := .x 2) (if_pos rfl)
  unfold thingO at et
  walk_at "dl"
  refine fldOf ee en_nums ?_
  walk_at "dl"
  refine needOf (isLOf enn) ?_
  walk_at "dl"
  refine fldOf et th_number ?_
  walk_at "dl"
  have hal := asked_len W
  have hal2 : (s.asking n).asked.length = s.asked.length + 1 := by show (s.asked ++ [n]).length = _; simp
  refine appOf enn (by rw [nD_len]; omega) ?_
  have T1 : Tr (fun l => l ≠ HL.row) H.a (lagC CT CH (I.en CE) H s n) S H.a (hC CT CH (I.en CE) H (s.asking n)) (put S (H.a (.x 2)) (.lst (nD s.asked ++ [.int (n : Int)]))) := by
    have := R.set (pin := fun l => l ≠ HL.row) (l := .x 2) (o := .lst (nD s.asked)) (C' := hC CT CH (I.en CE) H (s.asking n)) (o' := .lst (nD s.asked ++ [.int (n : Int)])) (if_pos rfl) (by rw [nD_snoc]; rfl) fun l' hl => (lc hl).symm
    exact this
  generalize put S (H.a (.x 2)) (.lst (nD s.asked ++ [.int (n : Int)])) = S1 at T1
  have R1 : HRep CT CH (I.en CE) H (s.asking n) S1 := T1.rep
  have K := askD_e I.pl I.mp d
  have hdn := dn_ask hI.P hna
  have hmp : I.mp ≤ s.many := by rw [← gx.base]; exact W.bs
  have hout := gx.out
  have sl1 : Slk (s.asking n) := sl
  have nbk : ∀ {H' : HA} {S' : Sto}, HTr CT CH (I.en CE) H (s.asking n) S1 H' s1 S' → q .non S' := fun T => h _ _ (T1.trans T.tr fun l hl hc => by
    by_cases z : l = .x 2
    · subst z; exact nofun
    · rw [lc z] at hc; exact hc) T.many
  walk_at "dl"
  refine fldOf (en_e R1) en_plans ?_
  walk_at "dl"
  refine isDOf (en_p R1) ?_
  walk_at "dl"
  refine fldOf (hrep_t R1 hb.1 hb.2) th_number ?_
  walk_at "dl"
  refine dgorOf (en_p R1) rfl ?_
  rw [plansF_get hI]
  walk_at "dl"
  refine forOf (fun i δ S' => ∃ z2 z3 H' si, δ = [some (.ref (H.a (.x 0))), some (.ref (H.a (.t n))), z2, z3] ∧ HTr CT CH (I.en CE) H (s.asking n) S1 H' si S' ∧ Wf si ∧ Good si ∧ si.row = none ∧ si.base = s.base ∧ Slk si ∧ si.outer.length + dn I.pl I.mp si.asked ≤ s.outer.length + dn I.pl I.mp (s.asking n).asked + i ∧ PlsR (askD I.pl I.mp d) ((I.pl n).drop i) si s1)
    ⟨_, _, H, s.asking n, rfl, HTr.refl R1, W, G, rfl, rfl, sl1, Nat.le_refl _, hp⟩ ?_ ?_
  · rintro i x δ S2 hi ⟨z2, z3, H2, si, rfl, T2, W2, G2, r2, b2, sl2, o2, p2⟩
    rw [List.getElem?_map] at hi
    obtain ⟨p, hpi, rfl⟩ := Option.map_eq_some_iff.mp hi
    have hpm := List.mem_of_getElem? hpi
    have hil := (List.getElem?_eq_some_iff.mp hpi).1
    have edr : (I.pl n).drop i = p :: (I.pl n).drop (i + 1) := by
      obtain ⟨h1, h2⟩ := List.getElem?_eq_some_iff.mp hpi
      rw [List.drop_eq_getElem_cons h1, h2]
    rw [edr] at p2
    cases p2 with
    | cons t1 t2 =>
      rename_i sj
      have e0 : H2.a (.x 0) = H.a (.x 0) := HTr.x0 T2
      have hpk := hI.P.pk n p hpm
      have hpk2 : p.Pk si.many := Pk_mono (Nat.le_trans hmp T2.many) hpk
      have ed : p.dH (cutF (s.asking n).base fun n => H.a (.t n)) = p.dH fun j => H2.a (.t j) := dH_congr (fun j h1 h2 => by
        show (if j ≤ s.base then H.a (.t j) else 0) = _
        rw [if_pos (by rw [gx.base]; exact h2)]
        exact (T2.t h1 (Nat.le_trans h2 hmp)).symm) hpk
      have x := t1.stp K W2 G2 r2 sl2
      have hph := (pot_out hI.P).plr K (fun h => (pot_out hI.P).askD _ h) t1 W2 G2 sl2
      unfold phi at hph
      dsimp only at hph
      have hel : si.ends.length ≤ 50000 := by
        have h1 := sub_len sl2
        have h2 : (s.asking n).asked = s.asked ++ [n] := rfl
        rw [h2] at o2
        omega
      have nxt : ∀ {z3 : Option D} {H' : HA} {S' : Sto}, HTr CT CH (I.en CE) H2 si S2 H' sj S' → ∃ y2 y3 H3 sk, ([some (.ref (H.a (.x 0))), some (.ref (H.a (.t n))), some (p.dH (cutF (s.asking n).base fun n => H.a (.t n))), z3] : Dst) = [some (.ref (H.a (.x 0))), some (.ref (H.a (.t n))), y2, y3] ∧ HTr CT CH (I.en CE) H (s.asking n) S1 H3 sk S' ∧ Wf sk ∧ Good sk ∧ sk.row = none ∧ sk.base = s.base ∧ Slk sk ∧ sk.outer.length + dn I.pl I.mp sk.asked ≤ s.outer.length + dn I.pl I.mp (s.asking n).asked + (i + 1) ∧ PlsR (askD I.pl I.mp d) ((I.pl n).drop (i + 1)) sk s1 := fun T =>
        ⟨_, _, _, sj, rfl, T2.trans T, x.W, x.G, x.row, x.ev.base.trans b2, x.ev.slk sl2, by omega, t2⟩
      obtain ⟨es, os, e1, e2, e3, e4, e5⟩ := dH_els (H := H2) hpk2
      walk_at "dl"
      rw [ed, e1]
      walk_at "dl"
      refine lcOf (fun i acc => acc = ((os.take i).map (elT si)).map D.bl) (by omega) rfl ?_ ?_
      · rintro pl hpl j x acc hj rfl
        have hjl := (List.getElem?_eq_some_iff.mp hj).1
        have hoj : os[j]? = some (os[j]'(by omega)) := List.getElem?_eq_getElem (by omega)
        have kp : Kpt S2 (put S2 pl (.lst (((os.take j).map (elT si)).map D.bl))) := Kpt.refl.put hpl _
        have hee : put S2 pl (.lst (((os.take j).map (elT si)).map D.bl)) (H.a (.x 0)) = some (.ins CE I.dx (enFs (.ref (H2.a .hall)) (.ref (H2.a (.x 1))) (.ref (H2.a (.x 2))) (.ref (H2.a (.x 3))))) := by rw [← e0]; exact kp.at (en_e T2.rep)
        walk_at "dl"
        refine needOf (methOf (x := .non) hee rfl) ?_
        walk_at "dl"
        refine ⟨H2, I, si, x, os[j]'(by omega), S2, by rw [e0], T2.rep, kp, e4 j x _ hj hoj, ?_⟩
        refine LcO.of hpl ?_
        rw [List.take_add_one, hoj, List.map_append, List.map_append]
        rfl
      · rintro acc rfl
        rw [e2, List.take_length]
        walk_at "dl"
        refine ⟨os.map (elT si), rfl, ?_⟩
        walk_at "dl"
        have eall : (os.map (elT si)).all id = os.all (elT si) := by rw [List.all_map]; rfl
        rw [eall]
        cases hall : os.all (elT si) with
        | false =>
          walk_at "dl"
          have hno : ¬ p.all si := fun z => by rw [(e5 si).mpr z] at hall; cases hall
          have esj : sj = si := by
            cases t1 with
            | pass _ => rfl
            | hold h => exact absurd (fun j hj => by simp [Pl.ths] at hj; subst hj; exact h) hno
            | loose h _ _ => exact absurd (fun j hj => by simp [Pl.ths] at hj; subst hj; exact h) hno
            | looseNo h _ => rfl
            | part h _ _ _ => exact absurd h hno
            | sweep h => exact absurd h hno
          subst esj
          rw [← e1, ← ed]
          exact nxt (HTr.refl T2.rep)
        | true =>
          have hyes : p.all si := (e5 si).mp hall
          walk_at "dl"
          refine needOf (methOf (x := .non) (by rw [← e0]; exact en_e T2.rep) rfl) ?_
          walk_at "dl"
          refine ⟨I, hI, H2, si, p, sj, by rw [e1, e0], T2.rep, W2, hel, hyes, hpk2, hI.S n p hpm, t1, fun H3 S3 T3 => ?_⟩
          walk_at "dl"
          rw [← e1, ← ed]
          exact nxt T3
  · rintro δ S2 ⟨z2, z3, H2, si, rfl, T2, W2, G2, r2, b2, sl2, o2, p2⟩
    rw [List.length_map, List.drop_length] at p2
    cases p2
    walk_at "dl"
    exact nbk T2
end
end K

set_option Elab.async false
set_option linter.all false
set_option maxRecDepth 100000
namespace DL
open PySem L2 Evl EX
/-- something more stands by, untouched -/
theorem Tr.frame {L : Type} [DecidableEq L] {pin : L → Prop} {A A' : L → Addr} {C C' : L → Option O} {S S' : Sto} (V : Tr pin A C S A' C' S') (l0 : L) (o : Option O) (hp : ∀ u, o = some u → S (A l0) = some u) (hn : o ≠ none → ∀ l, l ≠ l0 → C l ≠ none → A l0 ≠ A l) (hz : C l0 = none) :
    Tr pin A (fun l => if l = l0 then o else C l) S (fun l => if l = l0 then A l0 else A' l) (fun l => if l = l0 then o else C' l) S' := by
  have hap : ∀ l, C' l ≠ none → o ≠ none → A l0 ≠ A' l := fun l h ho e => by
    obtain ⟨u, hu⟩ := Option.ne_none_iff_exists'.mp ho
    rcases V.ext l h with ⟨h1, h2⟩ | h1
    · exact hn ho l (fun z => by subst z; exact h1 hz) h1 (e.trans h2)
    · rw [← e, hp u hu] at h1; cases h1
  refine ⟨⟨fun {l u} e => ?_, fun {l l'} h h' e => ?_⟩, fun b hb hl => V.fr b hb fun l h => ?_, V.grow, fun l h => ?_, fun l hpn h => ?_⟩
  · by_cases z : l = l0
    · rw [if_pos z] at e ⊢
      have h1 := hp u e
      rw [V.fr (A l0) (nn h1) fun l h => hn (nn e) l (fun z => by subst z; exact h hz) h]
      exact h1
    · rw [if_neg z] at e ⊢
      exact V.rep.at_ e
  · by_cases z : l = l0 <;> by_cases z' : l' = l0
    · rw [z, z']
    · rw [if_pos z] at h e; rw [if_neg z'] at h' e
      exact absurd e (hap l' h' h)
    · rw [if_neg z] at h e; rw [if_pos z'] at h' e
      exact absurd e.symm (hap l h h')
    · rw [if_neg z] at h e; rw [if_neg z'] at h' e
      exact V.rep.inj h h' e
  · have := hl l (by rw [if_neg (fun z => by subst z; exact h hz)]; exact h)
    exact this
  · by_cases z : l = l0
    · rw [if_pos z] at h ⊢
      rw [if_pos z]
      exact .inl ⟨h, by rw [z]⟩
    · rw [if_neg z] at h ⊢
      rw [if_neg z]
      exact V.ext l h
  · by_cases z : l = l0
    · rw [if_pos z, z]
    · rw [if_neg z] at h ⊢
      exact V.keep l hpn h
end DL
namespace K
open PySem L2 Evl EX DL HM
section
variable {P : Program} {w : World} {K : PySem.W.Frag} {mg : Str → Option Value} {base : Heap} {CT CH CE : Addr}
local macro_rules | `(tactic| walk_at "dl") => `(tactic| try simp only [↓x_lcN, ↓x_lcSN, ↓x_catM, ↓x_catMN, ↓x_inO, ↓x_neV, ↓x_sortSet, ↓x_sortDLN, ↓x_lrg, ↓x_neg, ↓x_lcS, ↓x_lockE, ↓x_eqA, ↓x_dictD, ↓x_disp, ↓x_pNil, ↓x_pCons, ↓x_forS, ↓x_diSL, ↓x_diKeys, ↓x_lock, ↓x_dictP, ↓x_fld, ↓x_fldS, ↓x_fldA, ↓x_meth, ↓x_make, ↓x_dget, ↓x_din, ↓x_dget1, ↓x_dget2, ↓x_dpop, ↓x_dput, ↓x_listD, ↓x_sortDI, ↓x_lenD, ↓x_isiC, x_icS, x_icI, x_icB, x_icN, x_ioS, x_ioI, x_ioB, x_ioN, ↓x_gSub, ↓x_sortDL, ↓x_eqO, ↓x_ninA, x_catN, x_isBB, x_isBN, x_isBI, x_isBS, x_isBR, ↓x_seq, ↓x_nx, ↓x_pass, ↓x_brk, ↓x_cnt, ↓x_drop, ↓x_ret, ↓x_retN, ↓x_ifS, ↓x_set, ↓x_asg, ↓x_gN, ↓x_gT, ↓x_gsC, ↓x_gsN, ↓x_var, x_rdv, ↓x_c, ↓x_op, ↓x_test, x_tst, ↓x_and, ↓x_or, ↓x_not, ↓x_andV, ↓x_orV, ↓x_notV, x_tstV, ↓x_ifE, x_true, x_false, ↓x_nil, ↓x_cons, ↓x_tup, ↓x_lst, ↓x_new, ↓x_newD, ↓x_call, ↓x_cb, x_oI, x_oIc, x_oS, x_addS, x_isN, x_notN, x_eqI, x_eqS, x_eqIS, x_eqSI, x_eqNS, x_neI, x_neS, x_neB, x_eqB, x_few, x_need, ↓x_ix, x_lenS, x_ixL0, x_ixT0, x_ixT1, x_ixT2, x_ixT3, x_ixT4, x_lenL, x_lenT, x_lenC, x_listL, x_listT, x_tupL, x_tupT, x_strI, x_strS, x_int1, x_intB, x_I1, x_I2, x_cat, x_catT, ↓x_split, ↓x_for, ↓x_cut, ↓x_lc, ↓x_whl, ↓x_diL, ↓x_diT, ↓x_diS, x_itL, x_itC, x_itT, x_itS, ↓x_diR1, ↓x_diR2, ↓x_diE, x_enmL, x_enmC, ↓x_gcN, ↓x_gcT, ↓x_yes, ↓x_ml, ↓x_ms, x_strq, x_ss, x_ssc, x_ssi, ↓x_join, ↓x_aug, x_st2I, ↓x_sl, ↓x_noP, ↓x_part, x_intq, x_slL, x_slC, x_slS, ↓x_in, x_inT, x_inL, x_ninT, x_ninL, x_inN, x_inSS, x_inSI, x_inIS, x_inII, ↓x_sg, x_sgS, x_nsgS, ↓x_eqD, ↓x_inDD, x_mulS, ↓x_isi, x_isiS, x_isiI, x_isiB, x_isiN, x_isiL, x_isiT, ↓x_isTT, x_itI, x_itStr, x_itN, x_itB, x_itLst, x_itTup, ↓x_any, ↓x_all, ↓x_sum, ↓x_srtI, ↓x_srtS, ↓x_intS, ↓x_lenRf, ↓x_tupRf, ↓x_frz', x_flS, x_flI, x_flN, x_flB, x_cs_bool, x_isB_NoneType_bool, x_isB_bool_bool, x_isB_int_bool, x_isB_str_bool, x_isB_list_bool, x_isB_tuple_bool, x_isB_dict_bool, x_cs_int, x_isB_NoneType_int, x_isB_bool_int, x_isB_int_int, x_isB_str_int, x_isB_list_int, x_isB_tuple_int, x_isB_dict_int, x_cs_str, x_isB_NoneType_str, x_isB_bool_str, x_isB_int_str, x_isB_str_str, x_isB_list_str, x_isB_tuple_str, x_isB_dict_str, x_cs_list, x_isB_NoneType_list, x_isB_bool_list, x_isB_int_list, x_isB_str_list, x_isB_list_list, x_isB_tuple_list, x_isB_dict_list, x_cs_tuple, x_isB_NoneType_tuple, x_isB_bool_tuple, x_isB_int_tuple, x_isB_str_tuple, x_isB_list_tuple, x_isB_tuple_tuple, x_isB_dict_tuple, x_cs_dict, x_isB_NoneType_dict, x_isB_bool_dict, x_isB_int_dict, x_isB_str_dict, x_isB_list_dict, x_isB_tuple_dict, x_isB_dict_dict, List.all_cons, List.all_nil, Bool.and_self, Bool.or_false, Bool.or_true, Bool.false_or, Bool.true_or, wipeD, setD, DL.isNon, List.set_cons_zero, List.set_cons_succ, List.getElem?_cons_zero, List.getElem?_cons_succ, List.length_cons, List.length_nil, Nat.zero_add, List.cons_append, List.nil_append, decide_true, decide_false, Bool.not_true, Bool.not_false, true_and, and_true, startD, List.map_cons, List.map_nil, Nat.reduceSub, Nat.reduceLeDiff, Nat.zero_le, Int.reduceLT, Int.reduceLE, and_self, Nat.reduceAdd, List.replicate])
def backHA (H H1 : HA) : HA := { H1 with a := fun l => if l = .row then H.a .row else H1.a l }
theorem ok_askE {L d : Nat} (hL : 1 ≤ L) {fa : Addr} {fd : FuncData} (F : Fun K "ask_last" "Hall.ask_last" s_Hall_ask_last fa fd) (T : TxE K mg CT CH CE) (G_Ends_last : MDef P w K mg base L CE "last" ["self", "thing"] (lSp K (xSp CE (dLastE CT CH CE d)))) :
    FnOk P w K mg base CX0 (L + 1) fa fd ["self", "thing"] (lSp K (xSp CE fun I => dAsk CT CH (I.en CE) (askD I.pl I.mp (d + 1)))) := by
  refine dok F sc_Hall_ask_last (fun ds S q qx ⟨I, hI, H, s, n, s', e, _⟩ => by rw [e]; rfl) ⟨_, fun cdv A outer s H E hr => dss_cons (ds_if (PW.pt (dw_or (dt_cmp op_isN si_isN (de_fld T.Hall_ (by decide +kernel) (de_var 0)) (de_non) (nomark _)) (dw_or1 (dt_val (de_fld T.Thing_ (by decide +kernel) (de_var 1))))))
        (dss_one (ds_retN))
        (dss_nil))
      (dss_cons (ds_fld T.Thing_ (by decide +kernel) (de_var 1) (de_bl))
      (dss_cons (ds_set (i := 2) sc_Hall_ask_last.nd rfl (Or.inl rfl) (de_fld T.Hall_ (by decide +kernel) (de_var 0)))
      (dss_cons (ds_fld T.Hall_ (by decide +kernel) (de_var 0) (de_non))
      (dss_cons (ds_fldaug T.Hall_ (by decide +kernel) (de_var 0) (de_int) in_add)
      (dss_cons (ds_expr (de_meth T.Ends_ G_Ends_last (hr.mono (by omega)) (de_fld T.Hall_ (by decide +kernel) (de_var 0)) (da_cons (de_var 1) da_nil)))
      (dss_cons (ds_fldaug T.Hall_ (by decide +kernel) (de_var 0) (de_int) in_sub)
      (dss_one (ds_fld T.Hall_ (by decide +kernel) (de_var 0) (de_var 2))))))))), fun ds S q qx ⟨I, hI, H, s, n, s', hd, R, W, ht, ha, hq⟩ => ?_⟩
  subst hd
  have hb := W.tin n ht
  have eh := hrep_hall R
  have et := hrep_t R hb.1 hb.2
  have exd : (I.en CE).d (fun i => H.a (.x i)) = .ref (H.a (.x 0)) := rfl
  rw [exd] at eh
  walk_at "dl"
  refine fldOf eh ha_ender ?_
  walk_at "dl"
  refine fldOf et th_ended ?_
  walk_at "dl"
  obtain ⟨⟨gd, gx⟩, ha⟩ := ha
  rcases ha with ⟨hin, rfl⟩ | ⟨hna, s1, hp, rfl⟩
  · rw [decide_eq_true hin]
    walk_at "dl"
    exact hq H _ (HTr.refl R)
  rw [decide_eq_false hna]
  walk_at "dl"
  refine fldsOf et (Nat.le_of_ble_eq_true rfl) ?_
  rw [th_ended']
  have g := gd.G
  have T1 : Tr (fun l => l ≠ HL.row) H.a (hC CT CH (I.en CE) H s) S H.a (fun l => if l = .t n then some (thingO CT H (s.asking n) n) else hC CT CH (I.en CE) H s l) (put S (H.a (.t n)) (thingO CT H (s.asking n) n)) := R.set (l := .t n) (hC_t hb.1 hb.2) (if_pos rfl) fun l' hl => if_neg hl
  have e1 : (.ins CT (H.dt n) (thFs (s.form n) (.int (n : Int)) (.int (s.cnt n)) (.ref (H.a (.pd n))) (s.own n) (.bl true) (.bl (decide (n ∈ s.waits)))) : O) = thingO CT H (s.asking n) n := by
    unfold thingO
    rw [show decide (n ∈ (s.asking n).asked) = true from decide_eq_true (List.mem_append_right _ (List.mem_singleton.mpr rfl))]
    rfl
  rw [e1]
  generalize put S (H.a (.t n)) (thingO CT H (s.asking n) n) = S1 at T1
  have eh1 : S1 (H.a .hall) = some (.ins CH H.dx (haFs (.ref (H.a (.x 0))) (.int (s.many : Int)) (.ref (H.a .th)) (.ref (H.a .lf)) (rowD H s.row) (.int (s.lasts : Int)))) := T1.rep.at_ (l := .hall) (if_neg nofun)
  walk_at "dl"
  refine fldOf eh1 ha_row ?_
  walk_at "dl"
  refine fldsOf eh1 (Nat.le_of_ble_eq_true rfl) ?_
  rw [ha_row']
  walk_at "dl"
  refine fldOf put_same ha_lasts ?_
  walk_at "dl"
  refine fldsOf put_same (Nat.le_of_ble_eq_true rfl) ?_
  rw [ha_lasts', put_put]
  have T2 := T1.rep.set (pin := fun l => l ≠ HL.row) (l := .hall) (o := hallO CH (I.en CE) H s) (o' := .ins CH H.dx (haFs (.ref (H.a (.x 0))) (.int (s.many : Int)) (.ref (H.a .th)) (.ref (H.a .lf)) .non (.int ((s.lasts : Int) + 1)))) (C' := fun l => if l = .row then s.row.map (rowO H) else lagC CT CH (I.en CE) H s n l) (if_neg nofun) (by
    rw [if_neg (by exact nofun)]
    rfl) (fun l' hl => by
    cases l' with
    | hall => exact absurd rfl hl
    | row => rfl
    | t i =>
      rw [if_neg (by exact nofun)]
      show (if 1 ≤ i ∧ i ≤ s.many then some (thingO CT H (s.asking n) i) else none) = _
      by_cases z : HL.t i = .t n
      · cases z
        rw [if_pos rfl, if_pos hb]
      · rw [if_neg z]
        have zi : i ≠ n := fun e => z (by rw [e])
        have : thingO CT H (s.asking n) i = thingO CT H s i := by
          unfold thingO
          have : decide (i ∈ (s.asking n).asked) = decide (i ∈ s.asked) := decide_eq_decide.mpr (by
            show i ∈ s.asked ++ [n] ↔ _
            simp [zi])
          rw [this]
          rfl
        rw [this]
        rfl
    | x i =>
      rw [if_neg (by exact nofun), if_neg (by exact nofun)]
      unfold lagC
      by_cases z : HL.x i = .x 2
      · cases z
        rw [if_pos rfl]
        rfl
      · rw [if_neg z]
        show edX CE I (fun i => H.a (.x i)) (H.a .hall) (fun n => H.a (.t n)) (s.asked ++ [n]) s.ends s.base i = edX CE I (fun i => H.a (.x i)) (H.a .hall) (fun n => H.a (.t n)) s.asked s.ends s.base i
        unfold edX
        split <;> first | rfl | exact absurd rfl z
    | _ => rfl)
  have T12 := T1.trans T2 fun l hl h => by
    show (if l = .t n then _ else _) ≠ none
    split
    · exact nofun
    · exact h
  generalize put S1 (H.a .hall) _ = S3 at T12 ⊢
  clear T2
  have hlr : lagC CT CH (I.en CE) H s n .row = none := rfl
  have RL : Rep H.a (lagC CT CH (I.en CE) H s n) S3 := (T12.rep.sub (pin := fun l => l ≠ HL.row) (C' := lagC CT CH (I.en CE) H s n) fun l o h => by
    rw [if_neg (fun z => by subst z; rw [hlr] at h; cases h)]
    exact h).rep
  have eh3 : S3 (H.a .hall) = some (.ins CH H.dx (haFs (.ref (H.a (.x 0))) (.int (s.many : Int)) (.ref (H.a .th)) (.ref (H.a .lf)) .non (.int ((s.lasts : Int) + 1)))) := RL.at_ (l := .hall) rfl
  have ee3 : S3 (H.a (.x 0)) = some (.ins CE I.dx (enFs (.ref (H.a .hall)) (.ref (H.a (.x 1))) (.ref (H.a (.x 2))) (.ref (H.a (.x 3))))) := RL.at_ (l := .x 0) rfl
  walk_at "dl"
  refine fldOf eh3 ha_ender ?_
  walk_at "dl"
  refine needOf (methOf (x := .non) ee3 rfl) ?_
  walk_at "dl"
  refine ⟨I, hI, H, s, n, s1, rfl, RL, W.asking hb.2 hna, ⟨g.cnt, g.rnd, g.rt, g.rin, g.oin⟩, gd.sl, ht, hna, gx, hp, fun H1 S4 V hm => ?_⟩
  have ehh : H1.a .hall = H.a .hall := V.keep .hall nofun nofun
  have F4 := V.frame .row (s.row.map (rowO H)) (fun u hu => T12.rep.at_ (l := .row) hu) (fun ho l hl hc => T12.rep.ne (l := .row) (l' := l) (by rw [if_pos rfl]; exact ho) (by rw [if_neg hl]; exact hc) hl.symm) hlr
  have T3 := T12.trans F4 fun l hl h => by
    show (if l = .row then _ else _) ≠ none
    rw [if_neg hl]
    unfold lagC
    split
    · exact nofun
    · exact hC_live (s := s) (s' := s.asking n) hl (Nat.le_refl s.many) h
  have K := askD_e I.pl I.mp d
  have Wa := W.asking hb.2 hna
  have Ga : Good (s.asking n) := ⟨g.cnt, g.rnd, g.rt, g.rin, g.oin⟩
  have st := hp.stp K Wa Ga rfl gd.sl
  have hl1 : s1.lasts = s.lasts + 1 := st.ev.lasts
  have eh4 : S4 (H.a .hall) = some (.ins CH H1.dx (haFs (.ref (H1.a (.x 0))) (.int (s1.many : Int)) (.ref (H1.a .th)) (.ref (H1.a .lf)) (rowD H1 s1.row) (.int (s1.lasts : Int)))) := by rw [← ehh]; exact V.rep.at_ (l := .hall) rfl
  walk_at "dl"
  refine fldOf eh4 ha_lasts ?_
  walk_at "dl"
  refine fldsOf eh4 (Nat.le_of_ble_eq_true rfl) ?_
  rw [ha_lasts']
  walk_at "dl"
  refine fldsOf put_same (Nat.le_of_ble_eq_true rfl) ?_
  rw [ha_row', put_put]
  have hrl : ∀ l, s.row = some l → ∀ i ∈ l, H1.a (.t i) = H.a (.t i) := fun l hl i hi => by
    have := W.win i ((W.rnd l hl).2 i hi)
    refine V.keep (.t i) nofun ?_
    show (if 1 ≤ i ∧ i ≤ s.many then some (thingO CT H (s.asking n) i) else none) ≠ none
    rw [if_pos this]
    exact nofun
  have hro : s.row.map (rowO (backHA H H1)) = s.row.map (rowO H) := by
    cases hr : s.row with
    | none => rfl
    | some l =>
      show some (O.lst _) = some (O.lst _)
      congr 2
      exact List.map_congr_left fun i hi => by
        show D.ref (H1.a (.t i)) = _
        rw [hrl l hr i hi]
  have T5 := F4.rep.set (pin := fun l => l ≠ HL.row) (l := .hall) (o := hallO CH (I.en CE) H1 s1) (o' := .ins CH H1.dx (haFs (.ref (H1.a (.x 0))) (.int (s1.many : Int)) (.ref (H1.a .th)) (.ref (H1.a .lf)) (rowD H s.row) (.int ((s1.lasts : Int) - 1)))) (C' := hC CT CH (I.en CE) (backHA H H1) { s1 with row := s.row, lasts := s1.lasts - 1 }) (by
    rw [if_neg (by exact nofun)]
    rfl) (by
    show some (hallO CH (I.en CE) (backHA H H1) { s1 with row := s.row, lasts := s1.lasts - 1 }) = _
    unfold hallO
    have : ((s1.lasts - 1 : Nat) : Int) = (s1.lasts : Int) - 1 := by omega
    dsimp only
    rw [this]
    cases s.row <;> rfl) (fun l' hl => by
    cases l' with
    | hall => exact absurd rfl hl
    | row => rw [if_pos rfl]; exact hro
    | _ => rw [if_neg (by exact nofun)]; rfl)
  have e6 : (if HL.hall = HL.row then H.a .row else H1.a .hall) = H.a .hall := ehh
  rw [e6] at T5
  exact hq (backHA H H1) _ ⟨T3.trans T5 fun l hl h => by
    show (if l = .row then _ else _) ≠ none
    rw [if_neg hl]
    exact hC_live (s := s) (s' := s1) hl st.ev.many h, st.ev.many⟩
theorem ok_askE0 {fa : Addr} {fd : FuncData} (F : Fun K "ask_last" "Hall.ask_last" s_Hall_ask_last fa fd) (T : TxE K mg CT CH CE) :
    FnOk P w K mg base CX0 1 fa fd ["self", "thing"] (lSp K (xSp CE fun I => dAsk CT CH (I.en CE) (askD I.pl I.mp 0))) := by
  refine dok F sc_Hall_ask_last (fun ds S q qx ⟨I, hI, H, s, n, s', e, _⟩ => by rw [e]; rfl) ⟨_, fun cdv A outer s H E hr => dss_cons (ds_if (PW.pt (dw_or (dt_cmp op_isN si_isN (de_fld T.Hall_ (by decide +kernel) (de_var 0)) (de_non) (nomark _)) (dw_or1 (dt_val (de_fld T.Thing_ (by decide +kernel) (de_var 1))))))
        (dss_one (ds_retN))
        (dss_nil))
      (dss_cons (ds_fld T.Thing_ (by decide +kernel) (de_var 1) (de_bl))
      (dss_cons (ds_set (i := 2) sc_Hall_ask_last.nd rfl (Or.inl rfl) (de_fld T.Hall_ (by decide +kernel) (de_var 0)))
      (dss_cons (ds_fld T.Hall_ (by decide +kernel) (de_var 0) (de_non))
      (dss_cons (ds_fldaug T.Hall_ (by decide +kernel) (de_var 0) (de_int) in_add)
      (dss_cons (ds_never)
      (dss_cons (ds_fldaug T.Hall_ (by decide +kernel) (de_var 0) (de_int) in_sub)
      (dss_one (ds_fld T.Hall_ (by decide +kernel) (de_var 0) (de_var 2))))))))), fun ds S q qx ⟨I, hI, H, s, n, s', hd, R, W, ht, ha, hq⟩ => ?_⟩
  subst hd
  have hb := W.tin n ht
  have eh := hrep_hall R
  have et := hrep_t R hb.1 hb.2
  have exd : (I.en CE).d (fun i => H.a (.x i)) = .ref (H.a (.x 0)) := rfl
  rw [exd] at eh
  obtain ⟨_, hin, rfl⟩ := ha
  walk_at "dl"
  refine fldOf eh ha_ender ?_
  walk_at "dl"
  refine fldOf et th_ended ?_
  rw [decide_eq_true hin]
  walk_at "dl"
  exact hq H _ (HTr.refl R)
end
end K

set_option Elab.async false
set_option linter.all false
set_option maxRecDepth 100000
namespace K
open PySem L2 Evl EX DL HM
section
variable {P : Program} {w : World} {K : PySem.W.Frag} {mg : Str → Option Value} {base : Heap} {CT CH CE : Addr}
theorem _root_.DL.MDef.x {k : Nat} {C : Addr} {m : Str} {ps : List Str} {sp : Ix → SpD} (G : MDef P w K mg base k C m ps (lSp K (xSp CE sp))) {I : Ix} (hI : I.Ok) : MDef P w K mg base k C m ps (lSp K (sp I)) := by
  obtain ⟨f, fd, F, M, B⟩ := G.ex
  exact ⟨f, fd, F.imp fun vs H Q E ⟨B, ds, S, q, qx, rd, r, h, hq⟩ => ⟨B, ds, S, q, qx, rd, r, ⟨I, hI, h⟩, hq⟩, M, B⟩
theorem x_of {k : Nat} {f : Addr} {fd : FuncData} {ps : List Str} {sp : Ix → SpD} (F : ∀ I : Ix, I.Ok → FnOk P w K mg base CX0 k f fd ps (lSp K (sp I))) : FnOk P w K mg base CX0 k f fd ps (lSp K (xSp CE sp)) :=
  ⟨fun vs H Q E ⟨B, ds, S, q, qx, rd, r, h, hq⟩ => by
    obtain ⟨I, hI, h⟩ := h
    exact (F I hI).len vs H Q E ⟨B, ds, S, q, qx, rd, r, h, hq⟩, fun A outer s H args us vs Q E hr he hb hv ⟨B, ds, S, q, qx, rd, r, h, hq⟩ => by
    obtain ⟨I, hI, h⟩ := h
    exact (F I hI).run A outer s H args us vs Q E hr he hb hv ⟨B, ds, S, q, qx, rd, r, h, hq⟩⟩
/-- a method: its text, its place, what its names are bound to -/
structure MAt (K : PySem.W.Frag) (C : Addr) (m q : Str) (st : Stmt) (ps : List Str) (f : Addr) (fd : FuncData) : Prop where
  F : Fun K m q st f fd
  M : Meth K C m f
  B : Binds K fd ps []
theorem MAt.md {C : Addr} {m q : Str} {st : Stmt} {ps : List Str} {f : Addr} {fd : FuncData} (A : MAt K C m q st ps f fd) {k : Nat} {sp : Sp} (h : FnOk P w K mg base CX0 k f fd ps sp) : MDef P w K mg base k C m ps sp := ⟨f, fd, h, A.M, A.B⟩
section
variable {f1 f2 f3 f4 f5 f6 f7 f8 f9 f10 : Addr} {d1 d2 d3 d4 d5 d6 d7 d8 d9 d10 : FuncData}
/-- the hall's methods at some depth of lasts -/
structure HallX (P : Program) (w : World) (K : PySem.W.Frag) (mg : Str → Option Value) (base : Heap) (CT CH CE : Addr) (d : Nat) : Prop where
  turn : MDef P w K mg base (8 * d + 4) CH "turn" ["self", "thing"] (lSp K (xSp CE fun I => dTurn CT CH (I.en CE) (askD I.pl I.mp d)))
  work : MDef P w K mg base (8 * d + 5) CH "work" ["self"] (lSp K (xSp CE fun I => dWork CT CH (I.en CE) (askD I.pl I.mp d)))
  go : MDef P w K mg base (8 * d + 6) CH "let_go" ["self", "thing"] (lSp K (xSp CE fun I => dLetGo CT CH (I.en CE) (askD I.pl I.mp d)))
  loose : MDef P w K mg base (8 * d + 7) CH "loose" ["self", "value"] (lSp K (xSp CE fun I => dLoose CT CH (I.en CE) (askD I.pl I.mp d)))
  put : MDef P w K mg base (8 * d + 8) CH "put" ["self", "thing", "key", "value"] (lSp K (xSp CE fun I => dPut CT CH (I.en CE) (askD I.pl I.mp d)))
  take : MDef P w K mg base (8 * d + 8) CH "take" ["self", "thing", "key"] (lSp K (xSp CE fun I => dTake CT CH (I.en CE) (askD I.pl I.mp d)))
theorem hall_x {d : Nat} (T : TxE K mg CT CH CE)
    (G_Hall_hold : MDef P w K mg base 1 CH "hold" ["self", "value"] (lSp K (xSp CE fun I => dHold CT CH (I.en CE))))
    (G_Hall_be_gone : MDef P w K mg base 1 CH "be_gone" ["self", "thing"] (lSp K (xSp CE fun I => dBeGone CT CH (I.en CE))))
    (G_Hall_empty : MDef P w K mg base 3 CH "empty" ["self", "thing"] (lSp K (xSp CE fun I => dEmpty CT CH (I.en CE))))
    (Mt : MAt K CH "turn" "Hall.turn" s_Hall_turn ["self", "thing"] f1 d1) (Mw : MAt K CH "work" "Hall.work" s_Hall_work ["self"] f2 d2) (Mg : MAt K CH "let_go" "Hall.let_go" s_Hall_let_go ["self", "thing"] f3 d3)
    (Ml : MAt K CH "loose" "Hall.loose" s_Hall_loose ["self", "value"] f4 d4) (Mp : MAt K CH "put" "Hall.put" s_Hall_put ["self", "thing", "key", "value"] f5 d5) (Mk : MAt K CH "take" "Hall.take" s_Hall_take ["self", "thing", "key"] f6 d6)
    (G : MDef P w K mg base (8 * d + 3) CH "ask_last" ["self", "thing"] (lSp K (xSp CE fun I => dAsk CT CH (I.en CE) (askD I.pl I.mp d)))) : HallX P w K mg base CT CH CE d := by
  have ok : ∀ I : Ix, AskOk (askD I.pl I.mp d) := fun I => (askD_e I.pl I.mp d).ok
  have g1 : MDef P w K mg base (8 * d + 4) CH "turn" ["self", "thing"] (lSp K (xSp CE fun I => dTurn CT CH (I.en CE) (askD I.pl I.mp d))) := Mt.md (x_of fun I hI => ok_turn (La := 8 * d + 3) (ok I) Mt.F T.toTxt (by omega) (G.x hI) (G_Hall_be_gone.x hI) (G_Hall_empty.x hI))
  have g2 : MDef P w K mg base (8 * d + 5) CH "work" ["self"] (lSp K (xSp CE fun I => dWork CT CH (I.en CE) (askD I.pl I.mp d))) := Mw.md (x_of fun I hI => ok_work (ok I) Mw.F T.toTxt (g1.x hI))
  have g3 : MDef P w K mg base (8 * d + 6) CH "let_go" ["self", "thing"] (lSp K (xSp CE fun I => dLetGo CT CH (I.en CE) (askD I.pl I.mp d))) := Mg.md (x_of fun I hI => ok_let_go (ok I) Mg.F T.toTxt (g2.x hI))
  have g4 : MDef P w K mg base (8 * d + 7) CH "loose" ["self", "value"] (lSp K (xSp CE fun I => dLoose CT CH (I.en CE) (askD I.pl I.mp d))) := Ml.md (x_of fun I hI => ok_loose Ml.F T.toTxt (g3.x hI))
  exact ⟨g1, g2, g3, g4, Mp.md (x_of fun I hI => ok_put (by omega) Mp.F T.toTxt (G_Hall_hold.x hI) (g4.x hI)), Mk.md (x_of fun I hI => ok_take Mk.F T.toTxt (g4.x hI))⟩
theorem ask_x (T : TxE K mg CT CH CE)
    (G_Hall_hold : MDef P w K mg base 1 CH "hold" ["self", "value"] (lSp K (xSp CE fun I => dHold CT CH (I.en CE))))
    (G_Hall_make : MDef P w K mg base 3 CH "make" ["self", "form", "own"] (lSp K (xSp CE fun I => dMake CT CH (I.en CE))))
    (G_Hall_be_gone : MDef P w K mg base 1 CH "be_gone" ["self", "thing"] (lSp K (xSp CE fun I => dBeGone CT CH (I.en CE))))
    (G_Hall_empty : MDef P w K mg base 3 CH "empty" ["self", "thing"] (lSp K (xSp CE fun I => dEmpty CT CH (I.en CE))))
    (G_Ends_is_there : MDef P w K mg base 1 CE "is_there" ["self", "value"] (lSp K (dIsThere CT CH CE)))
    (Mt : MAt K CH "turn" "Hall.turn" s_Hall_turn ["self", "thing"] f1 d1) (Mw : MAt K CH "work" "Hall.work" s_Hall_work ["self"] f2 d2) (Mg : MAt K CH "let_go" "Hall.let_go" s_Hall_let_go ["self", "thing"] f3 d3)
    (Ml : MAt K CH "loose" "Hall.loose" s_Hall_loose ["self", "value"] f4 d4) (Mp : MAt K CH "put" "Hall.put" s_Hall_put ["self", "thing", "key", "value"] f5 d5) (Mk : MAt K CH "take" "Hall.take" s_Hall_take ["self", "thing", "key"] f6 d6)
    (Ma : MAt K CH "ask_last" "Hall.ask_last" s_Hall_ask_last ["self", "thing"] f7 d7) (Md : MAt K CE "do" "Ends.do" s_Ends_do ["self", "deed"] f8 d8) (Me : MAt K CE "last" "Ends.last" s_Ends_last ["self", "thing"] f9 d9) :
    ∀ d, MDef P w K mg base (8 * d + 3) CH "ask_last" ["self", "thing"] (lSp K (xSp CE fun I => dAsk CT CH (I.en CE) (askD I.pl I.mp d)))
  | 0 => Ma.md ((ok_askE0 Ma.F T).mono (by omega))
  | d + 1 => by
    have X := hall_x T G_Hall_hold G_Hall_be_gone G_Hall_empty Mt Mw Mg Ml Mp Mk (ask_x T G_Hall_hold G_Hall_make G_Hall_be_gone G_Hall_empty G_Ends_is_there Mt Mw Mg Ml Mp Mk Ma Md Me d)
    exact Ma.md (ok_askE (L := 8 * d + 10) (by omega) Ma.F T (Me.md (ok_lastE (L := 8 * d + 9) (by omega) Me.F T G_Ends_is_there (Md.md (ok_doE (L := 8 * d + 7) (by omega) Md.F T G_Hall_hold G_Hall_make X.loose X.put X.take)))))
end
end
end K

set_option Elab.async false
set_option linter.all false
set_option maxRecDepth 100000
namespace HM
open PySem L2 DL
/-- a planned deed as the law has it -/
def Pl.dM : Pl → D
  | .hold n => .tup [.str "hold", _root_.K.tD n]
  | .loose n => .tup [.str "loose", _root_.K.tD n]
  | .part d => d.d
  | .sweep v => .tup [.str "sweep", vM v]
def plansM (ks : List Nat) (pl : Nat → List Pl) : List (Key × D) := ks.map fun n : Nat => ((.inl (n : Int), .list ((pl n).map Pl.dM)) : Key × D)
end HM
namespace K
open PySem L2 Evl EX DL HM

/-- the law's own, with plans -/
def xM (I : Ix) : Mx := ⟨plansM I.ks I.pl, true⟩
/-- what stands in a planned deed of the law's -/
inductive ElmM : D → Option Nat → Prop where
  | th {n : Nat} : ElmM (.tup [.str (Str.ofString "t"), .int (n : Int)]) (some n)
  | no {e : D} : (∀ (S : Sto) (k : DK), k (.bl false) S → stC oIsi [e, .ty "tuple"] S k ⟨⟩) → ElmM e none
theorem _root_.EX.Def.x {P : Program} {w : World} {K : PySem.W.Frag} {mg : Str → Option Value} {base : Heap} {CE : Addr} {k : Nat} {m : Str} {ps : List Str} {sp : Ix → SpD} (G : DefD P w K mg base k m ps (xSp CE sp)) {I : Ix} (hI : I.Ok) : DefD P w K mg base k m ps (sp I) := by
  obtain ⟨f, fd, F, a, b, c⟩ := G.ex
  exact ⟨f, fd, F.imp fun vs H Q E ⟨B, ds, S, q, qx, rd, r, h, hq⟩ => ⟨B, ds, S, q, qx, rd, r, ⟨I, hI, h⟩, hq⟩, a, b, c⟩
section
variable {P : Program} {w : World} {K : PySem.W.Frag} {mg : Str → Option Value} {base : Heap} {CT CH CE : Addr}
local macro_rules | `(tactic| walk_at "dl") => `(tactic| try simp only [↓x_lcN, ↓x_lcSN, ↓x_catM, ↓x_catMN, ↓x_inO, ↓x_neV, ↓x_sortSet, ↓x_sortDLN, ↓x_lrg, ↓x_neg, ↓x_lcS, ↓x_lockE, ↓x_eqA, ↓x_dictD, ↓x_disp, ↓x_pNil, ↓x_pCons, ↓x_forS, ↓x_diSL, ↓x_diKeys, ↓x_lock, ↓x_dictP, ↓x_fld, ↓x_fldS, ↓x_fldA, ↓x_meth, ↓x_make, ↓x_dget, ↓x_din, ↓x_dget1, ↓x_dget2, ↓x_dpop, ↓x_dput, ↓x_listD, ↓x_sortDI, ↓x_lenD, ↓x_isiC, x_icS, x_icI, x_icB, x_icN, x_ioS, x_ioI, x_ioB, x_ioN, ↓x_gSub, ↓x_sortDL, ↓x_eqO, ↓x_ninA, x_catN, x_isBB, x_isBN, x_isBI, x_isBS, x_isBR, ↓x_seq, ↓x_nx, ↓x_pass, ↓x_brk, ↓x_cnt, ↓x_drop, ↓x_ret, ↓x_retN, ↓x_ifS, ↓x_set, ↓x_asg, ↓x_gN, ↓x_gT, ↓x_gsC, ↓x_gsN, ↓x_var, x_rdv, ↓x_c, ↓x_op, ↓x_test, x_tst, ↓x_and, ↓x_or, ↓x_not, ↓x_andV, ↓x_orV, ↓x_notV, x_tstV, ↓x_ifE, x_true, x_false, ↓x_nil, ↓x_cons, ↓x_tup, ↓x_lst, ↓x_new, ↓x_newD, ↓x_call, ↓x_cb, x_oI, x_oIc, x_oS, x_addS, x_isN, x_notN, x_eqI, x_eqS, x_eqIS, x_eqSI, x_eqNS, x_neI, x_neS, x_neB, x_eqB, x_few, x_need, ↓x_ix, x_lenS, x_ixL0, x_ixT0, x_ixT1, x_ixT2, x_ixT3, x_ixT4, x_lenL, x_lenT, x_lenC, x_listL, x_listT, x_tupL, x_tupT, x_strI, x_strS, x_int1, x_intB, x_I1, x_I2, x_cat, x_catT, ↓x_split, ↓x_for, ↓x_cut, ↓x_lc, ↓x_whl, ↓x_diL, ↓x_diT, ↓x_diS, x_itL, x_itC, x_itT, x_itS, ↓x_diR1, ↓x_diR2, ↓x_diE, x_enmL, x_enmC, ↓x_gcN, ↓x_gcT, ↓x_yes, ↓x_ml, ↓x_ms, x_strq, x_ss, x_ssc, x_ssi, ↓x_join, ↓x_aug, x_st2I, ↓x_sl, ↓x_noP, ↓x_part, x_intq, x_slL, x_slC, x_slS, ↓x_in, x_inT, x_inL, x_ninT, x_ninL, x_inN, x_inSS, x_inSI, x_inIS, x_inII, ↓x_sg, x_sgS, x_nsgS, ↓x_eqD, ↓x_inDD, x_mulS, ↓x_isi, x_isiS, x_isiI, x_isiB, x_isiN, x_isiL, x_isiT, ↓x_isTT, x_itI, x_itStr, x_itN, x_itB, x_itLst, x_itTup, ↓x_any, ↓x_all, ↓x_sum, ↓x_srtI, ↓x_srtS, ↓x_intS, ↓x_lenRf, ↓x_tupRf, ↓x_frz', x_flS, x_flI, x_flN, x_flB, x_cs_bool, x_isB_NoneType_bool, x_isB_bool_bool, x_isB_int_bool, x_isB_str_bool, x_isB_list_bool, x_isB_tuple_bool, x_isB_dict_bool, x_cs_int, x_isB_NoneType_int, x_isB_bool_int, x_isB_int_int, x_isB_str_int, x_isB_list_int, x_isB_tuple_int, x_isB_dict_int, x_cs_str, x_isB_NoneType_str, x_isB_bool_str, x_isB_int_str, x_isB_str_str, x_isB_list_str, x_isB_tuple_str, x_isB_dict_str, x_cs_list, x_isB_NoneType_list, x_isB_bool_list, x_isB_int_list, x_isB_str_list, x_isB_list_list, x_isB_tuple_list, x_isB_dict_list, x_cs_tuple, x_isB_NoneType_tuple, x_isB_bool_tuple, x_isB_int_tuple, x_isB_str_tuple, x_isB_list_tuple, x_isB_tuple_tuple, x_isB_dict_tuple, x_cs_dict, x_isB_NoneType_dict, x_isB_bool_dict, x_isB_int_dict, x_isB_str_dict, x_isB_list_dict, x_isB_tuple_dict, x_isB_dict_dict, List.all_cons, List.all_nil, Bool.and_self, Bool.or_false, Bool.or_true, Bool.false_or, Bool.true_or, wipeD, setD, DL.isNon, List.set_cons_zero, List.set_cons_succ, List.getElem?_cons_zero, List.getElem?_cons_succ, List.length_cons, List.length_nil, Nat.zero_add, List.cons_append, List.nil_append, decide_true, decide_false, Bool.not_true, Bool.not_false, true_and, and_true, startD, List.map_cons, List.map_nil, Nat.reduceSub, Nat.reduceLeDiff, Nat.zero_le, Int.reduceLT, Int.reduceLE, and_self, Nat.reduceAdd, List.replicate])
end
end K

set_option Elab.async false
set_option linter.all false
set_option maxRecDepth 100000
namespace HM
open PySem L2 DL
theorem msum_mul {f : Nat → Nat} {c : Nat} (h : ∀ i, f i ≤ c) : ∀ m, msum f m ≤ c * m
  | 0 => Nat.zero_le _
  | m + 1 => by
    have := msum_mul h m
    rw [Nat.mul_succ]
    exact Nat.add_le_add this (h _)
theorem us_le {pl : Nat → List Pl} {mp : Nat} {a : List Nat} : us pl mp a ≤ mp := by
  have := msum_mul (f := usF pl a) (c := 1) (fun i => by unfold usF; split; exact Nat.zero_le _; split; exact Nat.zero_le _; exact Nat.le_refl _) mp
  unfold us
  omega
theorem dn_le {pl : Nat → List Pl} {mp c : Nat} {a : List Nat} (h : ∀ n, (pl n).length ≤ c) : dn pl mp a ≤ c * mp := msum_mul (f := dnF pl a) (fun i => by unfold dnF; split; exact Nat.zero_le _; exact h i) mp
/-- where an asker's deed may be done -/
structure Jx (pl : Nat → List Pl) (mp k : Nat) (s : Hs) : Prop where
  W : Wf s
  G : Good s
  row : s.row = none
  mo : ∀ n, s.mine.count n + s.ends.count n ≤ s.outer.count n
  kk : Kk s
  base : s.base = mp
  lo : s.outer.length + dn pl mp s.asked ≤ k
  ln : nbP pl mp s ≤ k
  lm : s.mine.length ≤ k
section
variable {pl : Nat → List Pl} {mp k : Nat} {s s' : Hs}
theorem Jx.slk (j : Jx pl mp k s) : Slk s := fun i => by have := j.mo i; omega
theorem Jx.mono (j : Jx pl mp k s) {k' : Nat} (h : k ≤ k') : Jx pl mp k' s := ⟨j.W, j.G, j.row, j.mo, j.kk, j.base, Nat.le_trans j.lo h, Nat.le_trans j.ln h, Nat.le_trans j.lm h⟩
end
end HM
namespace K
open PySem L2 Evl EX DL HM
section
variable {P : Program} {w : World} {K : PySem.W.Frag} {mg : Str → Option Value} {base : Heap} {CT CH CE : Addr} {en : Ed}
local macro_rules | `(tactic| walk_at "dl") => `(tactic| try simp only [↓x_lcN, ↓x_lcSN, ↓x_catM, ↓x_catMN, ↓x_inO, ↓x_neV, ↓x_sortSet, ↓x_sortDLN, ↓x_lrg, ↓x_neg, ↓x_lcS, ↓x_lockE, ↓x_eqA, ↓x_dictD, ↓x_disp, ↓x_pNil, ↓x_pCons, ↓x_forS, ↓x_diSL, ↓x_diKeys, ↓x_lock, ↓x_dictP, ↓x_fld, ↓x_fldS, ↓x_fldA, ↓x_meth, ↓x_make, ↓x_dget, ↓x_din, ↓x_dget1, ↓x_dget2, ↓x_dpop, ↓x_dput, ↓x_listD, ↓x_sortDI, ↓x_lenD, ↓x_isiC, x_icS, x_icI, x_icB, x_icN, x_ioS, x_ioI, x_ioB, x_ioN, ↓x_gSub, ↓x_sortDL, ↓x_eqO, ↓x_ninA, x_catN, x_isBB, x_isBN, x_isBI, x_isBS, x_isBR, ↓x_seq, ↓x_nx, ↓x_pass, ↓x_brk, ↓x_cnt, ↓x_drop, ↓x_ret, ↓x_retN, ↓x_ifS, ↓x_set, ↓x_asg, ↓x_gN, ↓x_gT, ↓x_gsC, ↓x_gsN, ↓x_var, x_rdv, ↓x_c, ↓x_op, ↓x_test, x_tst, ↓x_and, ↓x_or, ↓x_not, ↓x_andV, ↓x_orV, ↓x_notV, x_tstV, ↓x_ifE, x_true, x_false, ↓x_nil, ↓x_cons, ↓x_tup, ↓x_lst, ↓x_new, ↓x_newD, ↓x_call, ↓x_cb, x_oI, x_oIc, x_oS, x_addS, x_isN, x_notN, x_eqI, x_eqS, x_eqIS, x_eqSI, x_eqNS, x_neI, x_neS, x_neB, x_eqB, x_few, x_need, ↓x_ix, x_lenS, x_ixL0, x_ixT0, x_ixT1, x_ixT2, x_ixT3, x_ixT4, x_lenL, x_lenT, x_lenC, x_listL, x_listT, x_tupL, x_tupT, x_strI, x_strS, x_int1, x_intB, x_I1, x_I2, x_cat, x_catT, ↓x_split, ↓x_for, ↓x_cut, ↓x_lc, ↓x_whl, ↓x_diL, ↓x_diT, ↓x_diS, x_itL, x_itC, x_itT, x_itS, ↓x_diR1, ↓x_diR2, ↓x_diE, x_enmL, x_enmC, ↓x_gcN, ↓x_gcT, ↓x_yes, ↓x_ml, ↓x_ms, x_strq, x_ss, x_ssc, x_ssi, ↓x_join, ↓x_aug, x_st2I, ↓x_sl, ↓x_noP, ↓x_part, x_intq, x_slL, x_slC, x_slS, ↓x_in, x_inT, x_inL, x_ninT, x_ninL, x_inN, x_inSS, x_inSI, x_inIS, x_inII, ↓x_sg, x_sgS, x_nsgS, ↓x_eqD, ↓x_inDD, x_mulS, ↓x_isi, x_isiS, x_isiI, x_isiB, x_isiN, x_isiL, x_isiT, ↓x_isTT, x_itI, x_itStr, x_itN, x_itB, x_itLst, x_itTup, ↓x_any, ↓x_all, ↓x_sum, ↓x_srtI, ↓x_srtS, ↓x_intS, ↓x_lenRf, ↓x_tupRf, ↓x_frz', x_flS, x_flI, x_flN, x_flB, x_cs_bool, x_isB_NoneType_bool, x_isB_bool_bool, x_isB_int_bool, x_isB_str_bool, x_isB_list_bool, x_isB_tuple_bool, x_isB_dict_bool, x_cs_int, x_isB_NoneType_int, x_isB_bool_int, x_isB_int_int, x_isB_str_int, x_isB_list_int, x_isB_tuple_int, x_isB_dict_int, x_cs_str, x_isB_NoneType_str, x_isB_bool_str, x_isB_int_str, x_isB_str_str, x_isB_list_str, x_isB_tuple_str, x_isB_dict_str, x_cs_list, x_isB_NoneType_list, x_isB_bool_list, x_isB_int_list, x_isB_str_list, x_isB_list_list, x_isB_tuple_list, x_isB_dict_list, x_cs_tuple, x_isB_NoneType_tuple, x_isB_bool_tuple, x_isB_int_tuple, x_isB_str_tuple, x_isB_list_tuple, x_isB_tuple_tuple, x_isB_dict_tuple, x_cs_dict, x_isB_NoneType_dict, x_isB_bool_dict, x_isB_int_dict, x_isB_str_dict, x_isB_list_dict, x_isB_tuple_dict, x_isB_dict_dict, List.all_cons, List.all_nil, Bool.and_self, Bool.or_false, Bool.or_true, Bool.false_or, Bool.true_or, wipeD, setD, DL.isNon, List.set_cons_zero, List.set_cons_succ, List.getElem?_cons_zero, List.getElem?_cons_succ, List.length_cons, List.length_nil, Nat.zero_add, List.cons_append, List.nil_append, decide_true, decide_false, Bool.not_true, Bool.not_false, true_and, and_true, startD, List.map_cons, List.map_nil, Nat.reduceSub, Nat.reduceLeDiff, Nat.zero_le, Int.reduceLT, Int.reduceLE, and_self, Nat.reduceAdd, List.replicate])
end
end K

set_option Elab.async false
set_option linter.all false
set_option maxRecDepth 100000
namespace K
open PySem L2 Evl EX DL HM
/-- hall, ender and the law's own beside one another -/
structure Lx (CT CH CE : Addr) (k : Nat) (I : Ix) (ks : List Nat) (H : HA) (M : ML → Addr) (s : Hs) (th w : Addr) (S : Sto) : Prop where
  ok : I.Ok
  mp : I.mp ≤ 12
  h : HRep CT CH (I.en CE) H s S
  m : MRep M (xM I) s S
  ap : Apart H.a (hC CT CH (I.en CE) H s) M (mC M (xM I) s)
  j : Jx I.pl I.mp k s
  kn : Kn s.many ks
  un : I.ks = [] → ks = (List.range s.many).map (· + 1)
  hth : S th = some (.dct (thL H ks))
  wl : Well S w
  ht : ∀ l, hC CT CH (I.en CE) H s l ≠ none → th ≠ H.a l
  hw : ∀ l, hC CT CH (I.en CE) H s l ≠ none → w ≠ H.a l
  mt : ∀ l, mC M (xM I) s l ≠ none → th ≠ M l
  mw : ∀ l, mC M (xM I) s l ≠ none → w ≠ M l
theorem Kn.mono {m m' : Nat} {ks : List Nat} (k : Kn m ks) (h : m ≤ m') : Kn m' ks := ⟨k.nd, fun n hn => ⟨(k.rg n hn).1, Nat.le_trans (k.rg n hn).2 h⟩⟩
section
variable {CT CH CE : Addr} {k : Nat} {I : Ix} {ks : List Nat} {H : HA} {M : ML → Addr} {s : Hs} {th w : Addr} {S S' : Sto}
theorem Lx.well (L : Lx CT CH CE k I ks H M s th w S) (hw : Well S' w) (f : ∀ y, y ≠ w → S' y = S y) : Lx CT CH CE k I ks H M s th w S' := by
  have htw : th ≠ w := fun z => by obtain ⟨_, _, _, _, _, g, _⟩ := L.wl; rw [← z, L.hth] at g; cases g
  exact ⟨L.ok, L.mp, ⟨fun {l o} h => by rw [f _ (Ne.symm (L.hw l (nn h)))]; exact L.h.at_ h, L.h.inj⟩, m_keep L.m (fun l hl => Ne.symm (L.mw l hl)) f, L.ap, L.j, L.kn, L.un, by rw [f _ htw]; exact L.hth, hw, L.ht, L.hw, L.mt, L.mw⟩
theorem Lx.put (L : Lx CT CH CE k I ks H M s th w S) {p : Addr} (hp : S p = none) (o : O) : Lx CT CH CE k I ks H M s th w (DL.put S p o) := by
  have ne : ∀ {a : Addr} {o : O}, S a = some o → a ≠ p := fun h z => by rw [z, hp] at h; cases h
  refine ⟨L.ok, L.mp, ⟨fun {l o} h => by rw [put_ne (ne (L.h.at_ h))]; exact L.h.at_ h, L.h.inj⟩, ⟨fun {l o} h => by rw [put_ne (ne (L.m.at_ h))]; exact L.m.at_ h, L.m.inj⟩, L.ap, L.j, L.kn, L.un, by rw [put_ne (ne L.hth)]; exact L.hth, ?_, L.ht, L.hw, L.mt, L.mw⟩
  obtain ⟨a, b, c, d, cs, g, r⟩ := L.wl
  exact ⟨a, b, c, d, cs, by rw [put_ne (ne g)]; exact g, r⟩
theorem Lx.mono (L : Lx CT CH CE k I ks H M s th w S) {k' : Nat} (h : k ≤ k') : Lx CT CH CE k' I ks H M s th w S := ⟨L.ok, L.mp, L.h, L.m, L.ap, L.j.mono h, L.kn, L.un, L.hth, L.wl, L.ht, L.hw, L.mt, L.mw⟩
end
section
variable {P : Program} {w : World} {K : PySem.W.Frag} {mg : Str → Option Value} {base : Heap} {CT CH CE : Addr}
local macro_rules | `(tactic| walk_at "dl") => `(tactic| try simp only [↓x_lcN, ↓x_lcSN, ↓x_catM, ↓x_catMN, ↓x_inO, ↓x_neV, ↓x_sortSet, ↓x_sortDLN, ↓x_lrg, ↓x_neg, ↓x_lcS, ↓x_lockE, ↓x_eqA, ↓x_dictD, ↓x_disp, ↓x_pNil, ↓x_pCons, ↓x_forS, ↓x_diSL, ↓x_diKeys, ↓x_lock, ↓x_dictP, ↓x_fld, ↓x_fldS, ↓x_fldA, ↓x_meth, ↓x_make, ↓x_dget, ↓x_din, ↓x_dget1, ↓x_dget2, ↓x_dpop, ↓x_dput, ↓x_listD, ↓x_sortDI, ↓x_lenD, ↓x_isiC, x_icS, x_icI, x_icB, x_icN, x_ioS, x_ioI, x_ioB, x_ioN, ↓x_gSub, ↓x_sortDL, ↓x_eqO, ↓x_ninA, x_catN, x_isBB, x_isBN, x_isBI, x_isBS, x_isBR, ↓x_seq, ↓x_nx, ↓x_pass, ↓x_brk, ↓x_cnt, ↓x_drop, ↓x_ret, ↓x_retN, ↓x_ifS, ↓x_set, ↓x_asg, ↓x_gN, ↓x_gT, ↓x_gsC, ↓x_gsN, ↓x_var, x_rdv, ↓x_c, ↓x_op, ↓x_test, x_tst, ↓x_and, ↓x_or, ↓x_not, ↓x_andV, ↓x_orV, ↓x_notV, x_tstV, ↓x_ifE, x_true, x_false, ↓x_nil, ↓x_cons, ↓x_tup, ↓x_lst, ↓x_new, ↓x_newD, ↓x_call, ↓x_cb, x_oI, x_oIc, x_oS, x_addS, x_isN, x_notN, x_eqI, x_eqS, x_eqIS, x_eqSI, x_eqNS, x_neI, x_neS, x_neB, x_eqB, x_few, x_need, ↓x_ix, x_lenS, x_ixL0, x_ixT0, x_ixT1, x_ixT2, x_ixT3, x_ixT4, x_lenL, x_lenT, x_lenC, x_listL, x_listT, x_tupL, x_tupT, x_strI, x_strS, x_int1, x_intB, x_I1, x_I2, x_cat, x_catT, ↓x_split, ↓x_for, ↓x_cut, ↓x_lc, ↓x_whl, ↓x_diL, ↓x_diT, ↓x_diS, x_itL, x_itC, x_itT, x_itS, ↓x_diR1, ↓x_diR2, ↓x_diE, x_enmL, x_enmC, ↓x_gcN, ↓x_gcT, ↓x_yes, ↓x_ml, ↓x_ms, x_strq, x_ss, x_ssc, x_ssi, ↓x_join, ↓x_aug, x_st2I, ↓x_sl, ↓x_noP, ↓x_part, x_intq, x_slL, x_slC, x_slS, ↓x_in, x_inT, x_inL, x_ninT, x_ninL, x_inN, x_inSS, x_inSI, x_inIS, x_inII, ↓x_sg, x_sgS, x_nsgS, ↓x_eqD, ↓x_inDD, x_mulS, ↓x_isi, x_isiS, x_isiI, x_isiB, x_isiN, x_isiL, x_isiT, ↓x_isTT, x_itI, x_itStr, x_itN, x_itB, x_itLst, x_itTup, ↓x_any, ↓x_all, ↓x_sum, ↓x_srtI, ↓x_srtS, ↓x_intS, ↓x_lenRf, ↓x_tupRf, ↓x_frz', x_flS, x_flI, x_flN, x_flB, x_cs_bool, x_isB_NoneType_bool, x_isB_bool_bool, x_isB_int_bool, x_isB_str_bool, x_isB_list_bool, x_isB_tuple_bool, x_isB_dict_bool, x_cs_int, x_isB_NoneType_int, x_isB_bool_int, x_isB_int_int, x_isB_str_int, x_isB_list_int, x_isB_tuple_int, x_isB_dict_int, x_cs_str, x_isB_NoneType_str, x_isB_bool_str, x_isB_int_str, x_isB_str_str, x_isB_list_str, x_isB_tuple_str, x_isB_dict_str, x_cs_list, x_isB_NoneType_list, x_isB_bool_list, x_isB_int_list, x_isB_str_list, x_isB_list_list, x_isB_tuple_list, x_isB_dict_list, x_cs_tuple, x_isB_NoneType_tuple, x_isB_bool_tuple, x_isB_int_tuple, x_isB_str_tuple, x_isB_list_tuple, x_isB_tuple_tuple, x_isB_dict_tuple, x_cs_dict, x_isB_NoneType_dict, x_isB_bool_dict, x_isB_int_dict, x_isB_str_dict, x_isB_list_dict, x_isB_tuple_dict, x_isB_dict_dict, List.all_cons, List.all_nil, Bool.and_self, Bool.or_false, Bool.or_true, Bool.false_or, Bool.true_or, wipeD, setD, DL.isNon, List.set_cons_zero, List.set_cons_succ, List.getElem?_cons_zero, List.getElem?_cons_succ, List.length_cons, List.length_nil, Nat.zero_add, List.cons_append, List.nil_append, decide_true, decide_false, Bool.not_true, Bool.not_false, true_and, and_true, startD, List.map_cons, List.map_nil, Nat.reduceSub, Nat.reduceLeDiff, Nat.zero_le, Int.reduceLT, Int.reduceLE, and_self, Nat.reduceAdd, List.replicate])
end
end K

set_option Elab.async false
set_option linter.all false
set_option maxRecDepth 100000
/-! ### sweeps that ask lasts (no program in sight) -/
namespace HM
open PySem L2 DL
theorem emptied_left {n : Nat} : ∀ (l : List (Key × Vl)) (s : Hs), (s.emptied n l).left = s.left ∧ (s.emptied n l).told = s.told
  | [], s => ⟨rfl, rfl⟩
  | kv :: l, s => by
    obtain ⟨a, b⟩ := emptied_left l (({ s with parts := fset s.parts n l } : Hs).loosed kv.2)
    have h : (({ s with parts := fset s.parts n l } : Hs).loosed kv.2).left = s.left ∧ (({ s with parts := fset s.parts n l } : Hs).loosed kv.2).told = s.told := by
      cases kv.2 with
      | no d => exact ⟨rfl, rfl⟩
      | th j => rw [loosed_th]; split <;> exact ⟨rfl, rfl⟩
    exact ⟨a.trans h.1, b.trans h.2⟩
theorem gones_more : ∀ (l : List Nat) (s : Hs), (s.gones l).base = s.base ∧ (s.gones l).left = s.left ++ l ∧ (s.gones l).waits = s.waits ∧ (s.gones l).told = s.told
  | [], s => ⟨rfl, (List.append_nil _).symm, rfl, rfl⟩
  | n :: l, s => by
    obtain ⟨a, b, c, d⟩ := gones_more l (s.gone n)
    refine ⟨a, ?_, c, d⟩
    show ((s.gone n).gones l).left = _
    rw [b]
    show (s.left ++ [n]) ++ l = _
    rw [List.append_assoc]
    rfl
theorem empts_more : ∀ (l : List Nat) (s : Hs), (s.empts l).base = s.base ∧ (s.empts l).left = s.left ∧ (s.empts l).asked = s.asked ∧ (s.empts l).told = s.told
  | [], s => ⟨rfl, rfl, rfl, rfl⟩
  | n :: l, s => by
    obtain ⟨a, b, c, d⟩ := empts_more l ((s.emptied n (s.parts n)).bare n)
    obtain ⟨_, e2, _, _, _, e6⟩ := emptied_more (n := n) (s.parts n) s
    obtain ⟨f1, f2⟩ := emptied_left (n := n) (s.parts n) s
    exact ⟨a.trans e6, b.trans f1, c.trans e2, d.trans f2⟩
theorem empts_wr {W0 : List Nat} : ∀ (l : List Nat) (s : Hs) (r : List Nat), s.row = some r → s.waits = W0 ++ r → ∃ r', (s.empts l).row = some r' ∧ (s.empts l).waits = W0 ++ r'
  | [], s, r, h1, h2 => ⟨r, h1, h2⟩
  | n :: l, s, r, h1, h2 => by
    obtain ⟨r1, a, b⟩ := emptied_wr (n := n) (s.parts n) s r h1 h2
    exact empts_wr l ((s.emptied n (s.parts n)).bare n) r1 a b
theorem downs_more : ∀ (l : List Nat) (s : Hs), (s.downs l).base = s.base ∧ (s.downs l).left = s.left ∧ (s.downs l).asked = s.asked ∧ (s.downs l).told = s.told
  | [], s => ⟨rfl, rfl, rfl, rfl⟩
  | n :: l, s => downs_more l (s.down n)
theorem ups_more : ∀ (l : List Nat) (s : Hs), (s.ups l).base = s.base ∧ (s.ups l).left = s.left ∧ (s.ups l).asked = s.asked ∧ (s.ups l).told = s.told
  | [], s => ⟨rfl, rfl, rfl, rfl⟩
  | n :: l, s => ups_more l (s.up n)
/-- between a sweep's begin and its end -/
structure Mid (ask : AskR) (rs : List Vl) (s : Hs) (lost : List Nat) (s' : Hs) (lost0 : List Nat) (s1 d g e : Hs) (f : Nat) : Prop where
  ed : d = s1.downs lost0
  eg : g = (d.rowed (some [])).gones lost
  ee : e = g.empts lost
  lz : s.lasts = 0
  rn : s.row = none
  L0 : Lost s (· ∈ s.there) rs lost0
  A : AskAll ask (s.ups lost0) lost0 s1
  L1 : Lost d (· ∈ lost0) (rs ++ (others d lost0).map Vl.th) lost
  wk : Work ask f e s'
  nd0 : lost0.Nodup
  nd1 : lost.Nodup
  sub : ∀ n ∈ lost, n ∈ lost0
  in0 : ∀ n ∈ lost0, n ∈ s.there
  in1 : ∀ n ∈ lost0, n ∈ s1.there
  ev : Ev (s.ups lost0) s1
  wa : s1.waits = s.waits
  W1 : Wf s1
  G1 : Good s1
  C1 : Cl s1
  Wd : Wf d
  Gd : Good d
  Cd : Cl d
  r1 : d.rest = []
  Gn : Gns (d.rowed (some [])) g lost
  Em : Ems g e lost
  Cg : Cl g
  Ce : Cl e
  re : e.rest = []
section
variable {ask : AskR} (K : AskE ask) {s s' : Hs} {rs : List Vl} {lost : List Nat}
include K
theorem AskAll.ev {l : List Nat} (t : AskAll ask s l s') : Ev s s' ∧ s'.waits = s.waits ∧ s'.row = s.row := by
  induction t with
  | nil => exact ⟨Ev.refl _, rfl, rfl⟩
  | cons h1 h2 _ ih => exact ⟨(K.ev h2).trans ih.1, ih.2.1.trans (K.waits h2), ih.2.2.trans (K.row h2)⟩
theorem AskAll.wf {l : List Nat} (t : AskAll ask s l s') (w : Wf s) : Wf s' := by
  induction t with
  | nil => exact w
  | cons h1 h2 _ ih => exact ih (K.W h2)
theorem Swept.mid (t : Swept ask rs s lost s') (hl : s.lasts = 0) (w : Wf s) (g : Good s) (c : Cl s) (hr : s.rest = []) (h0 : s.row = none) (sl : Slk s) : ∃ lost0 s1 d g e f, Mid ask rs s lost s' lost0 s1 d g e f := by
  cases t with
  | busy h => exact absurd h (fun z => z.elim (fun y => by omega) fun y => y h0)
  | mk l0 r0 L0 A L1 ht W1 =>
    rename_i s1 lost0 f
    obtain ⟨u1, u2, u3, u4, u5, u6, u7, u8, u9, u10⟩ := ups_rest lost0 s
    have hin : ∀ n ∈ lost0, n ∈ s.there := fun n hn => ((L0.mem n).mp hn).1
    have nd0 : lost0.Nodup := L0.srt.imp fun h e => by omega
    have nd1 : lost.Nodup := L1.srt.imp fun h e => by omega
    have gu : Good (s.ups lost0) := g.ups fun n hn => (w.tin n (hin n hn)).2
    have cu : Cl (s.ups lost0) := c.congr u1 u2 (fun n h => by rw [u3]; exact h) u6 u5
    obtain ⟨w1, g1, c1, e1, e2, e3, e4, e5⟩ := A.keep K.acl w.ups gu cu
    obtain ⟨d1, d2, d3, d4, d5, d6, d7, d8, d9⟩ := downs_rest lost0 s1
    have wd := (w1.downs (l := lost0))
    have gd : Good (s1.downs lost0) := g1.downs nd0 fun n hn => List.count_pos_iff.mp (by
      have h1 := e5 n
      rw [u9, List.count_append, ups_ends] at h1
      have h2 := sl n
      have h3 := List.count_pos_iff.mpr hn
      omega)
    have cd : Cl (s1.downs lost0) := c1.congr d1 d2 (fun n h => by rw [d3]; exact h) d6 d5
    have hl1 : ∀ n ∈ lost, n ∈ lost0 := fun n hn => ((L1.mem n).mp hn).1
    have hrest1 : (s1.downs lost0).rest = [] := by rw [d3, e1, u3]; exact hr
    have Gn := gones_ok (l := lost) wd.rowed0 (gd.rowed _) nd1 fun n hn => by
      show n ∈ (s1.downs lost0).there
      rw [d1]; exact ht n (hl1 n hn)
    have cg : Cl (((s1.downs lost0).rowed (some [])).gones lost) := by
      refine ⟨fun i hi kv hk j e => ?_, fun i h1 h2 => ?_, by rw [Gn.own, Gn.many]; exact cd.ow⟩
      · obtain ⟨a, b⟩ := (Gn.there i).mp hi
        have a : i ∈ (s1.downs lost0).there := a
        rw [Gn.parts] at hk
        have hk : kv ∈ (s1.downs lost0).parts i := hk
        have hj := cd.cl i a kv hk j e
        refine (Gn.there j).mpr ⟨hj, fun z => ?_⟩
        have hz := (L1.mem j).mp z
        apply hz.2
        have hstep : Vl.th j ∈ ledP (s1.downs lost0) i := List.mem_map.mpr ⟨kv, hk, e⟩
        refine .step ?_ hstep
        by_cases y : i ∈ lost0
        · exact Classical.not_not.mp fun q => b ((L1.mem i).mpr ⟨y, q⟩)
        · exact .root (List.mem_append_right _ (List.mem_map.mpr ⟨i, List.mem_filter.mpr ⟨a, by simpa using y⟩, rfl⟩))
      · rw [Gn.rest, List.mem_append] at h2
        rw [Gn.parts]
        refine cd.gp i (fun z => h1 ((Gn.there i).mpr ⟨z, fun y => h2 (.inr y)⟩)) fun z => h2 (.inl z)
    have Em := empts_ok (l := lost) Gn.W Gn.G nd1 fun n hn => by rw [Gn.rest]; exact List.mem_append_right _ hn
    have ce : Cl ((((s1.downs lost0).rowed (some [])).gones lost).empts lost) := by
      refine ⟨fun i hi kv hk j e => ?_, fun i h1 h2 => ?_, by rw [Em.own, Em.many]; exact cg.ow⟩
      · rw [Em.there] at hi ⊢
        exact cg.cl i hi kv ((Em.shr i).mem hk) j e
      · by_cases z : i ∈ lost
        · exact Em.bare i z
        · rw [Em.same i z]
          exact cg.gp i (by rw [← Em.there]; exact h1) fun y => h2 ((Em.rest i).mpr ⟨y, z⟩)
    have hre : ((((s1.downs lost0).rowed (some [])).gones lost).empts lost).rest = [] := by
      refine List.eq_nil_iff_forall_not_mem.mpr fun n hn => ?_
      obtain ⟨a, b⟩ := (Em.rest n).mp hn
      rw [Gn.rest] at a
      rcases List.mem_append.mp a with a | a
      · have a : n ∈ (s1.downs lost0).rest := a
        rw [hrest1] at a; cases a
      · exact b a
    obtain ⟨v1, v2, v3⟩ := A.ev K
    exact ⟨lost0, s1, _, _, _, f, rfl, rfl, rfl, l0, r0, L0, A, L1, W1, nd0, nd1, hl1, hin, ht, v1, v2.trans u10, w1, g1, c1, wd, gd, cd, hrest1, Gn, Em, cg, ce, hre⟩
/-- what a sweep leaves -/
structure Sv (rs : List Vl) (s s' : Hs) : Prop where
  base : s'.base = s.base
  many : s.many ≤ s'.many
  bal : ∀ i, s'.outer.count i + s.ends.count i = s.outer.count i + s'.ends.count i
  rest : s'.rest = []
  lasts : s'.lasts = 0
  row : s'.row = none
  waits : s'.waits = s.waits
  mine : s'.mine = s.mine
  asked : ∃ l, s'.asked = s.asked ++ l
  stay : ∀ i ∈ s.there, Vl.th i ∈ rs → s.ends.count i < s.outer.count i → i ∈ s'.there
  W : Wf s'
  G : Good s'
  cl : Cl s'
  kk : Kk s → Kk s'
variable {lost0 : List Nat} {s1 d g e : Hs} {f : Nat}
theorem Mid.bal (m : Mid ask rs s lost s' lost0 s1 d g e f) (sl : Slk s) (i : Nat) : e.outer.count i + s.ends.count i = s.outer.count i + e.ends.count i ∧ e.outer.length + lost0.length = s1.outer.length := by
  obtain ⟨u1, u2, u3, u4, u5, u6, u7, u8, u9, u10⟩ := ups_rest lost0 s
  have h5 : ∀ i, s1.outer.count i + s.ends.count i = (s.outer.count i + lost0.count i) + s1.ends.count i := fun i => by
    have := m.ev.bal i
    rw [u9, ups_ends, List.count_append] at this
    exact this
  have hb : ∀ i, lost0.count i ≤ s1.outer.count i := fun i => by
    have := h5 i
    have := sl i
    omega
  obtain ⟨o1, o2⟩ := downs_outer (l := lost0) (s := s1) hb
  have eo : e.outer = d.outer := by rw [m.Em.outer, m.Gn.outer]; rfl
  have en : e.ends = s1.ends := by
    rw [m.ee, empts_ends, m.eg, (gones_left lost _).2.1]
    show d.ends = _
    rw [m.ed, downs_ends]
  rw [eo, en, m.ed]
  have h1 := o1 i
  have h2 := h5 i
  exact ⟨by omega, o2⟩
theorem Mid.asked (m : Mid ask rs s lost s' lost0 s1 d g e f) : e.asked = s1.asked ∧ e.many = s1.many ∧ e.base = s.base ∧ e.mine = s.mine ∧ e.lasts = 0 := by
  refine ⟨?_, ?_, ?_, ?_, ?_⟩
  · rw [m.ee, (empts_more lost g).2.2.1, m.eg, (gones_left lost _).1]
    show d.asked = _
    rw [m.ed, (downs_more lost0 s1).2.2.1]
  · rw [m.Em.many, m.Gn.many]
    show d.many = _
    rw [m.ed, (downs_rest lost0 s1).2.2.2.2.1]
  · rw [m.ee, (empts_more lost g).1, m.eg, (gones_more lost _).1]
    show d.base = _
    rw [m.ed, (downs_more lost0 s1).1, m.ev.base, (ups_more lost0 s).1]
  · rw [m.Em.mine, m.Gn.mine]
    show d.mine = _
    rw [m.ed, (downs_rest lost0 s1).2.2.2.2.2.2.2.1, m.ev.mine, (ups_rest lost0 s).2.2.2.2.2.2.2.1]
  · rw [m.Em.lasts, m.Gn.lasts]
    show d.lasts = _
    rw [m.ed, (downs_rest lost0 s1).2.2.2.2.2.2.1, m.ev.lasts, (ups_rest lost0 s).2.2.2.2.2.2.1, m.lz]
theorem Mid.row (m : Mid ask rs s lost s' lost0 s1 d g e f) : ∃ r, e.row = some r ∧ e.waits = s.waits ++ r := by
  have h1 : g.row = some [] := by rw [m.Gn.row]; rfl
  have h2 : g.waits = s.waits ++ [] := by
    rw [m.eg, (gones_more lost _).2.2.1, List.append_nil]
    show d.waits = _
    rw [m.ed, (downs_rest lost0 s1).2.2.2.2.2.2.2.2, m.wa]
  have := empts_wr lost g [] h1 h2
  rw [← m.ee] at this
  exact this
theorem Mid.kk (m : Mid ask rs s lost s' lost0 s1 d g e f) (h : Kk s) : Kk s1 ∧ Kk d ∧ Kk e := by
  have h1 : Kk s1 := m.ev.kk fun n kv hk => by rw [(ups_rest lost0 s).2.1] at hk; exact h n kv hk
  have h2 : Kk d := fun n kv hk => by rw [m.ed, (downs_rest lost0 s1).2.1] at hk; exact h1 n kv hk
  refine ⟨h1, h2, fun n kv hk => ?_⟩
  have h3 := (m.Em.shr n).mem hk
  rw [m.Gn.parts] at h3
  exact h2 n kv h3
theorem Mid.slk (m : Mid ask rs s lost s' lost0 s1 d g e f) (sl : Slk s) : Slk e := fun i => by have := (m.bal K sl i).1; have := sl i; omega
theorem Mid.sv (m : Mid ask rs s lost s' lost0 s1 d g e f) (sl : Slk s) : Sv rs s s' := by
  have ev := m.wk.ev K m.Em.W m.Em.G
  obtain ⟨a1, a2, a3, a4, a5⟩ := m.asked K
  obtain ⟨r, hr, hw⟩ := m.row K
  obtain ⟨c1, c2, c3, c4⟩ := m.wk.cl K.acl m.Em.W m.Em.G m.Ce
  obtain ⟨q1, q2⟩ := m.wk.wr K hr hw m.Em.W
  refine ⟨ev.base.trans a3, ?_, fun i => ?_, c2.trans m.re, c3.trans a5, c4, q1, ev.mine.trans a4, ?_, fun i hi hv hc => ?_, (m.wk.wf K.ok m.Em.W).1, m.wk.good K.good m.Em.W m.Em.G, c1, fun h => ev.kk (m.kk K h).2.2⟩
  · have := ev.many
    have h2 := m.ev.many
    rw [(ups_rest lost0 s).2.2.2.2.1] at h2
    omega
  · have h1 := (m.bal K sl i).1
    have h2 := ev.bal i
    omega
  · obtain ⟨l1, e1⟩ := m.ev.asked
    obtain ⟨l2, e2⟩ := ev.asked
    exact ⟨l1 ++ l2, by rw [e2, a1, e1, (ups_more lost0 s).2.2.1, List.append_assoc]⟩
  · refine ev.stay i ?_ ?_
    · rw [m.Em.there]
      refine (m.Gn.there i).mpr ⟨?_, fun z => ((m.L1.mem i).mp z).2 (.root (List.mem_append_left _ hv))⟩
      show i ∈ d.there
      rw [m.ed, (downs_rest lost0 s1).1]
      refine m.ev.stay i (by rw [(ups_rest lost0 s).1]; exact hi) ?_
      rw [ups_ends, (ups_rest lost0 s).2.2.2.2.2.2.2.2.1, List.count_append]
      omega
    · have := (m.bal K sl i).1
      omega
end
section
variable {pl : Nat → List Pl} {mp k : Nat} (P : Pn pl mp) {s s' : Hs} {rs : List Vl} {lost : List Nat}
include P
theorem all_pot {l : List Nat} {d : Nat} (t : AskAll (askD pl mp d) s l s') : nbP pl mp s' ≤ nbP pl mp s ∧ s'.outer.length + dn pl mp s'.asked ≤ s.outer.length + dn pl mp s.asked := by
  induction t with
  | nil => exact ⟨Nat.le_refl _, Nat.le_refl _⟩
  | cons h1 h2 _ ih =>
    obtain ⟨a, b⟩ := ih
    refine ⟨Nat.le_trans a ?_, Nat.le_trans b (hlen_of P h2)⟩
    rcases nb_ask P h2 with rfl | h
    · exact Nat.le_refl _
    · unfold phi at h
      omega
theorem ex_all (hmp : mp ≤ 12) : ∀ (l : List Nat) (s : Hs), Kk s → nbP pl mp s ≤ 4900 → s.base = mp → s.outer.length + dn pl mp s.asked ≤ 45000 → Wf s → Good s → Slk s → (∀ n ∈ l, n ∈ s.there ∧ s.ends.count n < s.outer.count n) → ∃ s', AskAll (askD pl mp 13) s l s'
  | [], s, _, _, _, _, _, _, _, _ => ⟨s, .nil⟩
  | n :: l, s, hk, hb, hba, ho, w, g, sl, hl => by
    obtain ⟨hn, hc⟩ := hl n (List.mem_cons_self ..)
    obtain ⟨s1, h1⟩ := ex_ask P 12 s n hk hb ⟨hba, ho⟩ ⟨w, g, hn, sl, hc⟩ (Nat.le_trans us_le hmp)
    have K := askD_e pl mp 13
    have ev := K.ev h1
    have h2 := all_pot P (AskAll.cons hn h1 .nil)
    obtain ⟨s2, t⟩ := ex_all hmp l s1 (ev.kk hk) (by omega) (ev.base.trans hba) (by omega) (K.W h1) (K.G h1) (ev.slk sl) fun i hi => by
      obtain ⟨a, b⟩ := hl i (List.mem_cons_of_mem _ hi)
      exact ⟨ev.stay i a b, by have := ev.bal i; omega⟩
    exact ⟨s2, .cons hn h1 t⟩
theorem swept_exD (hmp : mp ≤ 12) (j : Jx pl mp k s) (hk : k ≤ 4500) (c : Cl s) (hr : s.rest = []) (hl : s.lasts = 0) (rs : List Vl) : ∃ lost s', Swept (askD pl mp 13) rs s lost s' := by
  have K := askD_e pl mp 13
  have w := j.W
  have g := j.G
  have sl := j.slk
  obtain ⟨lost0, L0⟩ := lost_ex s s.there rs w.nd
  obtain ⟨u1, u2, u3, u4, u5, u6, u7, u8, u9, u10⟩ := ups_rest lost0 s
  have nd0 : lost0.Nodup := L0.srt.imp fun h e => by omega
  have hin : ∀ n ∈ lost0, n ∈ s.there := fun n hn => ((L0.mem n).mp hn).1
  have hll : lost0.length ≤ s.many := perm_len nd0 fun n hn => w.tin n (hin n hn)
  have hm : s.many ≤ k := by have := j.ln; unfold nbP at this; omega
  have gu : Good (s.ups lost0) := g.ups fun n hn => (w.tin n (hin n hn)).2
  have slu : Slk (s.ups lost0) := fun i => by rw [ups_ends, u9, List.count_append]; have := sl i; omega
  have nbu : nbP pl mp (s.ups lost0) = nbP pl mp s := by unfold nbP; rw [u5, (ups_more lost0 s).2.2.1]
  have ou : (s.ups lost0).outer.length + dn pl mp (s.ups lost0).asked = s.outer.length + lost0.length + dn pl mp s.asked := by rw [u9, (ups_more lost0 s).2.2.1, List.length_append]
  have hlo := j.lo
  have hln := j.ln
  obtain ⟨s1, A⟩ := ex_all P hmp lost0 (s.ups lost0) (fun n kv hk => by rw [u2] at hk; exact j.kk n kv hk) (by omega) ((ups_more lost0 s).1.trans j.base) (by omega) w.ups gu slu fun n hn => ⟨by rw [u1]; exact hin n hn, by
    rw [ups_ends, u9, List.count_append]
    have := sl n
    have := List.count_pos_iff.mpr hn
    omega⟩
  obtain ⟨p1, p2⟩ := all_pot P A
  have ev := (A.ev K).1
  have cu : Cl (s.ups lost0) := c.congr u1 u2 (fun n h => by rw [u3]; exact h) u6 u5
  obtain ⟨w1, g1, c1, e1, e2, e3, e4, e5⟩ := A.keep K.acl w.ups gu cu
  obtain ⟨d1, d2, d3, d4, d5, d6, d7, d8, d9⟩ := downs_rest lost0 s1
  obtain ⟨lost, L1⟩ := lost_ex (s1.downs lost0) lost0 (rs ++ (others (s1.downs lost0) lost0).map Vl.th) nd0
  have nd1 : lost.Nodup := L1.srt.imp fun h e => by omega
  have gd : Good (s1.downs lost0) := g1.downs nd0 fun n hn => List.count_pos_iff.mp (by
    have h1 := e5 n
    rw [u9, List.count_append, ups_ends] at h1
    have h2 := sl n
    have h3 := List.count_pos_iff.mpr hn
    omega)
  have ht : ∀ n ∈ lost0, n ∈ s1.there := fun n hn => ev.stay n (by rw [u1]; exact hin n hn) (by
    rw [ups_ends, u9, List.count_append]
    have := sl n
    have := List.count_pos_iff.mpr hn
    omega)
  have Gn := gones_ok (l := lost) (w1.downs (l := lost0)).rowed0 (gd.rowed (some [])) nd1 fun n hn => by
    show n ∈ (s1.downs lost0).there
    rw [d1]; exact ht n ((L1.mem n).mp hn).1
  have Em := empts_ok (l := lost) Gn.W Gn.G nd1 fun n hn => by rw [Gn.rest]; exact List.mem_append_right _ hn
  have hb : ∀ i, lost0.count i ≤ s1.outer.count i := fun i => by
    have h1 := e5 i
    rw [u9, List.count_append, ups_ends] at h1
    have := sl i
    omega
  obtain ⟨o1, o2⟩ := downs_outer (l := lost0) (s := s1) hb
  have eo : ((((s1.downs lost0).rowed (some [])).gones lost).empts lost).outer = (s1.downs lost0).outer := by rw [Em.outer, Gn.outer]; rfl
  have ea : ((((s1.downs lost0).rowed (some [])).gones lost).empts lost).asked = s1.asked := by
    rw [(empts_more lost _).2.2.1, (gones_left lost _).1]
    exact (downs_more lost0 s1).2.2.1
  have en : ((((s1.downs lost0).rowed (some [])).gones lost).empts lost).ends = s1.ends := by
    rw [empts_ends, (gones_left lost _).2.1]
    exact downs_ends lost0 s1
  have em : ((((s1.downs lost0).rowed (some [])).gones lost).empts lost).many = s1.many := by rw [Em.many, Gn.many]; exact d5
  have eb : ((((s1.downs lost0).rowed (some [])).gones lost).empts lost).base = mp := by
    rw [(empts_more lost _).1, (gones_more lost _).1]
    show (s1.downs lost0).base = _
    rw [(downs_more lost0 s1).1, ev.base, (ups_more lost0 s).1, j.base]
  have hrow := Em.row (by rw [Gn.row]; exact nofun)
  obtain ⟨l, el⟩ := Option.ne_none_iff_exists'.mp hrow
  have hke : Kk ((((s1.downs lost0).rowed (some [])).gones lost).empts lost) := fun n kv hk => by
    have h3 := (Em.shr n).mem hk
    rw [Gn.parts] at h3
    have h3 : kv ∈ (s1.downs lost0).parts n := h3
    rw [d2] at h3
    exact ev.kk (fun n kv hk => by rw [u2] at hk; exact j.kk n kv hk) n kv h3
  obtain ⟨f, s', W1⟩ := ex_work P (ex_ask P 12) _ _ _ l (Nat.le_refl _) (Nat.le_refl _) el Em.W Em.G (fun i => by
    rw [en, eo]
    have h1 := o1 i
    have h2 := e5 i
    rw [u9, List.count_append, ups_ends] at h2
    have := sl i
    omega) ⟨hke, by unfold nbP; rw [em, ea]; unfold nbP at p1 nbu hln; omega, eb, by rw [eo, ea]; omega⟩ (Nat.le_trans us_le hmp)
  exact ⟨lost, s', .mk hl j.row L0 A L1 ht W1⟩
theorem swept_jx (j : Jx pl mp k s) (c : Cl s) (hr : s.rest = []) (hl : s.lasts = 0) (t : Swept (askD pl mp 13) rs s lost s') : Jx pl mp k s' := by
  have K := askD_e pl mp 13
  have sl := j.slk
  obtain ⟨lost0, s1, d, g, e, f, m⟩ := t.mid K hl j.W j.G c hr j.row sl
  have v := m.sv K sl
  obtain ⟨p1, p2⟩ := all_pot P m.A
  obtain ⟨a1, a2, a3, a4, a5⟩ := m.asked K
  have n1 := (pot_nb P).work K (fun h => (pot_nb P).askD _ h) m.wk m.Em.W m.Em.G
  have n2 := (pot_out P).work K (fun h => (pot_out P).askD _ h) m.wk m.Em.W m.Em.G
  unfold phi at n1 n2
  dsimp only at n1 n2
  have h1 := (m.bal K sl 0).2
  have hlo := j.lo
  have hln := j.ln
  obtain ⟨u1, u2, u3, u4, u5, u6, u7, u8, u9, u10⟩ := ups_rest lost0 s
  rw [u9, (ups_more lost0 s).2.2.1, List.length_append] at p2
  have p1 : nbP pl mp s1 ≤ nbP pl mp s := by
    have e2 : nbP pl mp (s.ups lost0) = nbP pl mp s := by unfold nbP; rw [u5, (ups_more lost0 s).2.2.1]
    omega
  have n3 : nbP pl mp e = nbP pl mp s1 := by unfold nbP; rw [a2, a1]
  rw [a1] at n2
  exact ⟨v.W, v.G, v.row, fun i => by have := v.bal i; have := j.mo i; rw [v.mine]; omega, v.kk j.kk, v.base.trans j.base, by omega, by omega, by rw [v.mine]; exact j.lm⟩
/-- how large a hall is in the midst of a sweep -/
theorem all_sz (j : Jx pl mp k s) (hk : k ≤ 4500) {l1 : List Nat} {s1 : Hs} (A : AskAll (askD pl mp 13) (s.ups l1) l1 s1) : (∀ n, (s1.parts n).length ≤ 9) ∧ s1.many ≤ k := by
  have K := askD_e pl mp 13
  have w1 := A.wf K j.W.ups
  have ev := (A.ev K).1
  obtain ⟨u1, u2, u3, u4, u5, u6, u7, u8, u9, u10⟩ := ups_rest l1 s
  have k1 := ev.kk fun n kv hk => by rw [u2] at hk; exact j.kk n kv hk
  refine ⟨fun n => parts6 P w1 k1 n, ?_⟩
  have p1 := (all_pot P A).1
  have e2 : nbP pl mp (s.ups l1) = nbP pl mp s := by unfold nbP; rw [u5, (ups_more l1 s).2.2.1]
  have hln := j.ln
  have : s1.many ≤ nbP pl mp s1 := by unfold nbP; omega
  omega
end
end HM

set_option Elab.async false
set_option linter.all false
set_option maxRecDepth 100000
namespace HM
open PySem L2 DL
end HM
namespace K
open PySem L2 Evl EX DL HM
abbrev s_Ends___init__ : Stmt := inClass (top 5) 0
abbrev N_Ends___init__ : List Str := ["self"]
theorem sc_Ends___init__ : FnScope N_Ends___init__ ["self"] (defScope s_Ends___init__) := ⟨rfl, rfl, rfl, by decide +kernel, rfl, by decide +kernel, by decide +kernel⟩
abbrev s_law : Stmt := top 17
abbrev N_law : List Str := ["_law_script", "_law_well_here", "_law_ender", "_law_hall", "_law_rings", "_law_follows", "_law_great", "_law_k", "_law_kept", "_law_stays", "_law_due", "_law_counts", "_law_around", "_law_ring_here", "_law_thing"]
theorem sc_law : FnScope N_law ["_law_script"] (defScope s_law) := ⟨rfl, rfl, rfl, by decide +kernel, rfl, by decide +kernel, by decide +kernel⟩
/-- planned deeds so far -/
structure Bp (w p : Addr) (S0 : Sto) (m c : Nat) (S : Sto) (dl : List Pl) : Prop where
  at_ : S p = some (.lst (dl.map Pl.dM))
  pk : ∀ d ∈ dl, d.Pk m
  ns : ∀ d ∈ dl, ∀ v, d ≠ .sweep v
  le : dl.length ≤ c
  wl : Well S w
  fr : ∀ y, y ≠ w → y ≠ p → S y = S0 y
section
variable {w p : Addr} {S0 S S' : Sto} {m c : Nat} {dl : List Pl}
end
section
variable {P : Program} {w : World} {K : PySem.W.Frag} {mg : Str → Option Value} {base : Heap} {CT CH CE : Addr}
local macro_rules | `(tactic| walk_at "dl") => `(tactic| try simp only [↓x_lcN, ↓x_lcSN, ↓x_catM, ↓x_catMN, ↓x_inO, ↓x_neV, ↓x_sortSet, ↓x_sortDLN, ↓x_lrg, ↓x_neg, ↓x_lcS, ↓x_lockE, ↓x_eqA, ↓x_dictD, ↓x_disp, ↓x_pNil, ↓x_pCons, ↓x_forS, ↓x_diSL, ↓x_diKeys, ↓x_lock, ↓x_dictP, ↓x_fld, ↓x_fldS, ↓x_fldA, ↓x_meth, ↓x_make, ↓x_dget, ↓x_din, ↓x_dget1, ↓x_dget2, ↓x_dpop, ↓x_dput, ↓x_listD, ↓x_sortDI, ↓x_lenD, ↓x_isiC, x_icS, x_icI, x_icB, x_icN, x_ioS, x_ioI, x_ioB, x_ioN, ↓x_gSub, ↓x_sortDL, ↓x_eqO, ↓x_ninA, x_catN, x_isBB, x_isBN, x_isBI, x_isBS, x_isBR, ↓x_seq, ↓x_nx, ↓x_pass, ↓x_brk, ↓x_cnt, ↓x_drop, ↓x_ret, ↓x_retN, ↓x_ifS, ↓x_set, ↓x_asg, ↓x_gN, ↓x_gT, ↓x_gsC, ↓x_gsN, ↓x_var, x_rdv, ↓x_c, ↓x_op, ↓x_test, x_tst, ↓x_and, ↓x_or, ↓x_not, ↓x_andV, ↓x_orV, ↓x_notV, x_tstV, ↓x_ifE, x_true, x_false, ↓x_nil, ↓x_cons, ↓x_tup, ↓x_lst, ↓x_new, ↓x_newD, ↓x_call, ↓x_cb, x_oI, x_oIc, x_oS, x_addS, x_isN, x_notN, x_eqI, x_eqS, x_eqIS, x_eqSI, x_eqNS, x_neI, x_neS, x_neB, x_eqB, x_few, x_need, ↓x_ix, x_lenS, x_ixL0, x_ixT0, x_ixT1, x_ixT2, x_ixT3, x_ixT4, x_lenL, x_lenT, x_lenC, x_listL, x_listT, x_tupL, x_tupT, x_strI, x_strS, x_int1, x_intB, x_I1, x_I2, x_cat, x_catT, ↓x_split, ↓x_for, ↓x_cut, ↓x_lc, ↓x_whl, ↓x_diL, ↓x_diT, ↓x_diS, x_itL, x_itC, x_itT, x_itS, ↓x_diR1, ↓x_diR2, ↓x_diE, x_enmL, x_enmC, ↓x_gcN, ↓x_gcT, ↓x_yes, ↓x_ml, ↓x_ms, x_strq, x_ss, x_ssc, x_ssi, ↓x_join, ↓x_aug, x_st2I, ↓x_sl, ↓x_noP, ↓x_part, x_intq, x_slL, x_slC, x_slS, ↓x_in, x_inT, x_inL, x_ninT, x_ninL, x_inN, x_inSS, x_inSI, x_inIS, x_inII, ↓x_sg, x_sgS, x_nsgS, ↓x_eqD, ↓x_inDD, x_mulS, ↓x_isi, x_isiS, x_isiI, x_isiB, x_isiN, x_isiL, x_isiT, ↓x_isTT, x_itI, x_itStr, x_itN, x_itB, x_itLst, x_itTup, ↓x_any, ↓x_all, ↓x_sum, ↓x_srtI, ↓x_srtS, ↓x_intS, ↓x_lenRf, ↓x_tupRf, ↓x_frz', x_flS, x_flI, x_flN, x_flB, x_cs_bool, x_isB_NoneType_bool, x_isB_bool_bool, x_isB_int_bool, x_isB_str_bool, x_isB_list_bool, x_isB_tuple_bool, x_isB_dict_bool, x_cs_int, x_isB_NoneType_int, x_isB_bool_int, x_isB_int_int, x_isB_str_int, x_isB_list_int, x_isB_tuple_int, x_isB_dict_int, x_cs_str, x_isB_NoneType_str, x_isB_bool_str, x_isB_int_str, x_isB_str_str, x_isB_list_str, x_isB_tuple_str, x_isB_dict_str, x_cs_list, x_isB_NoneType_list, x_isB_bool_list, x_isB_int_list, x_isB_str_list, x_isB_list_list, x_isB_tuple_list, x_isB_dict_list, x_cs_tuple, x_isB_NoneType_tuple, x_isB_bool_tuple, x_isB_int_tuple, x_isB_str_tuple, x_isB_list_tuple, x_isB_tuple_tuple, x_isB_dict_tuple, x_cs_dict, x_isB_NoneType_dict, x_isB_bool_dict, x_isB_int_dict, x_isB_str_dict, x_isB_list_dict, x_isB_tuple_dict, x_isB_dict_dict, List.all_cons, List.all_nil, Bool.and_self, Bool.or_false, Bool.or_true, Bool.false_or, Bool.true_or, wipeD, setD, DL.isNon, List.set_cons_zero, List.set_cons_succ, List.getElem?_cons_zero, List.getElem?_cons_succ, List.length_cons, List.length_nil, Nat.zero_add, List.cons_append, List.nil_append, decide_true, decide_false, Bool.not_true, Bool.not_false, true_and, and_true, startD, List.map_cons, List.map_nil, Nat.reduceSub, Nat.reduceLeDiff, Nat.zero_le, Int.reduceLT, Int.reduceLE, and_self, Nat.reduceAdd, List.replicate])
def dEnInit (CE : Addr) : SpD := fun ds S k _ => ∃ (a dx : Addr), ds = [.ref a] ∧ S a = some (.ins CE dx []) ∧
  ∀ p1 p2 p3 S', S p1 = none → S p2 = none → S p3 = none → p1 ≠ p2 → p1 ≠ p3 → p2 ≠ p3 → S' a = some (.ins CE dx (enFs .non (.ref p1) (.ref p2) (.ref p3))) → S' p1 = some (.dct []) → S' p2 = some (.lst []) → S' p3 = some (.lst []) → (∀ b, b ≠ p1 → b ≠ p2 → b ≠ p3 → b ≠ a → S' b = S b) → k .non S'
theorem ok_eninit {fa : Addr} {fd : FuncData} (F : Fun K "__init__" "Ends.__init__" s_Ends___init__ fa fd) (T : TxE K mg CT CH CE) : FnOk P w K mg base CX0 1 fa fd ["self"] (lSp K (dEnInit CE)) := by
  refine dok F sc_Ends___init__ (fun ds S q qx ⟨a, dx, h, _⟩ => by rw [h]; rfl) ⟨_, fun cdv A outer s H E hr => dss_cons (ds_fld T.Ends_ (by decide +kernel) (de_var 0) (de_non))
      (dss_cons (ds_fld T.Ends_ (by decide +kernel) (de_var 0) (de_newD))
      (dss_cons (ds_fld T.Ends_ (by decide +kernel) (de_var 0) (de_new (da_nil)))
      (dss_one (ds_fld T.Ends_ (by decide +kernel) (de_var 0) (de_new (da_nil)))))), fun ds S q qx ⟨a, dx, hd, ha, h⟩ => ?_⟩
  subst hd
  walk_at "dl"
  refine fldsOf ha (Nat.le_of_ble_eq_true rfl) ?_
  walk_at "dl"
  refine freshOf fun p1 h1 => ?_
  have n1 : a ≠ p1 := sto_ne put_same h1
  rw [put_ne n1.symm] at h1
  walk_at "dl"
  refine fldsOf (by rw [put_ne n1]; exact put_same) (Nat.le_of_ble_eq_true rfl) ?_
  walk_at "dl"
  refine freshOf fun p2 h2 => ?_
  have n2 : a ≠ p2 := sto_ne put_same h2
  rw [put_ne n2.symm] at h2
  have n12 : p1 ≠ p2 := sto_ne put_same h2
  rw [put_ne n12.symm, put_ne n2.symm] at h2
  walk_at "dl"
  refine fldsOf (by rw [put_ne n2]; exact put_same) (Nat.le_of_ble_eq_true rfl) ?_
  walk_at "dl"
  refine freshOf fun p3 h3 => ?_
  have n3 : a ≠ p3 := sto_ne put_same h3
  rw [put_ne n3.symm] at h3
  have n23 : p2 ≠ p3 := sto_ne put_same h3
  rw [put_ne n23.symm, put_ne n3.symm] at h3
  have n13 : p1 ≠ p3 := sto_ne put_same h3
  rw [put_ne n13.symm, put_ne n3.symm] at h3
  walk_at "dl"
  refine fldsOf (by rw [put_ne n3]; exact put_same) (Nat.le_of_ble_eq_true rfl) ?_
  refine h p1 p2 p3 _ h1 h2 h3 n12 n13 n23 put_same ?_ ?_ ?_ fun b b1 b2 b3 b4 => ?_
  · rw [put_ne n1.symm, put_ne n13, put_ne n1.symm, put_ne n12, put_ne n1.symm, put_same]
  · rw [put_ne n2.symm, put_ne n23, put_ne n2.symm, put_same]
  · rw [put_ne n3.symm, put_same]
  · rw [put_ne b4, put_ne b3, put_ne b4, put_ne b2, put_ne b4, put_ne b1, put_ne b4]
def dEnLay (CE : Addr) : SpD := fun ds S k _ => ∃ (a dx h : Addr) (x b c d : D), ds = [.ref a, .ref h] ∧ S a = some (.ins CE dx (enFs x b c d)) ∧ k .non (put S a (.ins CE dx (enFs (.ref h) b c d)))
theorem ok_enlay {fa : Addr} {fd : FuncData} (F : Fun K "lay" "Ends.lay" s_Ends_lay fa fd) (T : TxE K mg CT CH CE) : FnOk P w K mg base CX0 1 fa fd ["self", "hall"] (lSp K (dEnLay CE)) := by
  refine dok F sc_Ends_lay (fun ds S q qx ⟨a, dx, h, x, b, c, d, e, _⟩ => by rw [e]; rfl) ⟨_, fun cdv A outer s H E hr => dss_one (ds_fld T.Ends_ (by decide +kernel) (de_var 0) (de_var 1)), fun ds S q qx ⟨a, dx, h, x, b, c, d, hd, ha, hq⟩ => ?_⟩
  subst hd
  walk_at "dl"
  refine fldsOf ha (Nat.le_of_ble_eq_true rfl) ?_
  exact hq
def dEnAsked (CT CH CE : Addr) (I : Ix) : SpD := fun ds S k _ => ∃ (H : HA) (s : Hs), ds = [.ref (H.a (.x 0))] ∧ HRep CT CH (I.en CE) H s S ∧ ∀ p, S p = none → k (.ref p) (put S p (.lst (nD s.asked)))
theorem ok_enasked {fa : Addr} {fd : FuncData} (F : Fun K "asked" "Ends.asked" s_Ends_asked fa fd) (T : TxE K mg CT CH CE) : FnOk P w K mg base CX0 1 fa fd ["self"] (lSp K (xSp CE (dEnAsked CT CH CE))) := by
  refine dok F sc_Ends_asked (fun ds S q qx ⟨I, hI, H, s, e, _⟩ => by rw [e]; rfl) ⟨_, fun cdv A outer s H E hr => dss_one (ds_ret (de_callTy (clList (K := K)) si_listN (by rfl) T.list (by decide +kernel) (da_cons (de_fld T.Ends_ (by decide +kernel) (de_var 0)) da_nil))), fun ds S q qx ⟨I, hI, H, s, hd, R, hq⟩ => ?_⟩
  subst hd
  walk_at "dl"
  refine fldOf (en_e R) en_nums ?_
  walk_at "dl"
  exact ⟨nD s.asked, en_n R, hq⟩
end
end K

set_option Elab.async false
set_option linter.all false
set_option maxRecDepth 100000
namespace HM
open PySem L2 DL
end HM
namespace K
open PySem L2 Evl EX DL HM
section
variable {P : Program} {w : World} {K : PySem.W.Frag} {mg : Str → Option Value} {base : Heap} {CT CH CE : Addr}
local macro_rules | `(tactic| walk_at "dl") => `(tactic| try simp only [↓x_lcN, ↓x_lcSN, ↓x_catM, ↓x_catMN, ↓x_inO, ↓x_neV, ↓x_sortSet, ↓x_sortDLN, ↓x_lrg, ↓x_neg, ↓x_lcS, ↓x_lockE, ↓x_eqA, ↓x_dictD, ↓x_disp, ↓x_pNil, ↓x_pCons, ↓x_forS, ↓x_diSL, ↓x_diKeys, ↓x_lock, ↓x_dictP, ↓x_fld, ↓x_fldS, ↓x_fldA, ↓x_meth, ↓x_make, ↓x_dget, ↓x_din, ↓x_dget1, ↓x_dget2, ↓x_dpop, ↓x_dput, ↓x_listD, ↓x_sortDI, ↓x_lenD, ↓x_isiC, x_icS, x_icI, x_icB, x_icN, x_ioS, x_ioI, x_ioB, x_ioN, ↓x_gSub, ↓x_sortDL, ↓x_eqO, ↓x_ninA, x_catN, x_isBB, x_isBN, x_isBI, x_isBS, x_isBR, ↓x_seq, ↓x_nx, ↓x_pass, ↓x_brk, ↓x_cnt, ↓x_drop, ↓x_ret, ↓x_retN, ↓x_ifS, ↓x_set, ↓x_asg, ↓x_gN, ↓x_gT, ↓x_gsC, ↓x_gsN, ↓x_var, x_rdv, ↓x_c, ↓x_op, ↓x_test, x_tst, ↓x_and, ↓x_or, ↓x_not, ↓x_andV, ↓x_orV, ↓x_notV, x_tstV, ↓x_ifE, x_true, x_false, ↓x_nil, ↓x_cons, ↓x_tup, ↓x_lst, ↓x_new, ↓x_newD, ↓x_call, ↓x_cb, x_oI, x_oIc, x_oS, x_addS, x_isN, x_notN, x_eqI, x_eqS, x_eqIS, x_eqSI, x_eqNS, x_neI, x_neS, x_neB, x_eqB, x_few, x_need, ↓x_ix, x_lenS, x_ixL0, x_ixT0, x_ixT1, x_ixT2, x_ixT3, x_ixT4, x_lenL, x_lenT, x_lenC, x_listL, x_listT, x_tupL, x_tupT, x_strI, x_strS, x_int1, x_intB, x_I1, x_I2, x_cat, x_catT, ↓x_split, ↓x_for, ↓x_cut, ↓x_lc, ↓x_whl, ↓x_diL, ↓x_diT, ↓x_diS, x_itL, x_itC, x_itT, x_itS, ↓x_diR1, ↓x_diR2, ↓x_diE, x_enmL, x_enmC, ↓x_gcN, ↓x_gcT, ↓x_yes, ↓x_ml, ↓x_ms, x_strq, x_ss, x_ssc, x_ssi, ↓x_join, ↓x_aug, x_st2I, ↓x_sl, ↓x_noP, ↓x_part, x_intq, x_slL, x_slC, x_slS, ↓x_in, x_inT, x_inL, x_ninT, x_ninL, x_inN, x_inSS, x_inSI, x_inIS, x_inII, ↓x_sg, x_sgS, x_nsgS, ↓x_eqD, ↓x_inDD, x_mulS, ↓x_isi, x_isiS, x_isiI, x_isiB, x_isiN, x_isiL, x_isiT, ↓x_isTT, x_itI, x_itStr, x_itN, x_itB, x_itLst, x_itTup, ↓x_any, ↓x_all, ↓x_sum, ↓x_srtI, ↓x_srtS, ↓x_intS, ↓x_lenRf, ↓x_tupRf, ↓x_frz', x_flS, x_flI, x_flN, x_flB, x_cs_bool, x_isB_NoneType_bool, x_isB_bool_bool, x_isB_int_bool, x_isB_str_bool, x_isB_list_bool, x_isB_tuple_bool, x_isB_dict_bool, x_cs_int, x_isB_NoneType_int, x_isB_bool_int, x_isB_int_int, x_isB_str_int, x_isB_list_int, x_isB_tuple_int, x_isB_dict_int, x_cs_str, x_isB_NoneType_str, x_isB_bool_str, x_isB_int_str, x_isB_str_str, x_isB_list_str, x_isB_tuple_str, x_isB_dict_str, x_cs_list, x_isB_NoneType_list, x_isB_bool_list, x_isB_int_list, x_isB_str_list, x_isB_list_list, x_isB_tuple_list, x_isB_dict_list, x_cs_tuple, x_isB_NoneType_tuple, x_isB_bool_tuple, x_isB_int_tuple, x_isB_str_tuple, x_isB_list_tuple, x_isB_tuple_tuple, x_isB_dict_tuple, x_cs_dict, x_isB_NoneType_dict, x_isB_bool_dict, x_isB_int_dict, x_isB_str_dict, x_isB_list_dict, x_isB_tuple_dict, x_isB_dict_dict, List.all_cons, List.all_nil, Bool.and_self, Bool.or_false, Bool.or_true, Bool.false_or, Bool.true_or, wipeD, setD, DL.isNon, List.set_cons_zero, List.set_cons_succ, List.getElem?_cons_zero, List.getElem?_cons_succ, List.length_cons, List.length_nil, Nat.zero_add, List.cons_append, List.nil_append, decide_true, decide_false, Bool.not_true, Bool.not_false, true_and, and_true, startD, List.map_cons, List.map_nil, Nat.reduceSub, Nat.reduceLeDiff, Nat.zero_le, Int.reduceLT, Int.reduceLE, and_self, Nat.reduceAdd, List.replicate])
section
variable {k k0 : Nat} {I I2 : Ix} {ks : List Nat} {H : HA} {M : ML → Addr} {s : Hs} {th w p : Addr} {S : Sto}
end
end
end K

set_option Elab.async false
set_option linter.all false
set_option maxRecDepth 100000
namespace K
open PySem L2 Evl EX DL HM
section
variable {P : Program} {w : World} {K : PySem.W.Frag} {mg : Str → Option Value} {base : Heap} {CT CH CE : Addr}
local macro_rules | `(tactic| walk_at "dl") => `(tactic| try simp only [↓x_lcN, ↓x_lcSN, ↓x_catM, ↓x_catMN, ↓x_inO, ↓x_neV, ↓x_sortSet, ↓x_sortDLN, ↓x_lrg, ↓x_neg, ↓x_lcS, ↓x_lockE, ↓x_eqA, ↓x_dictD, ↓x_disp, ↓x_pNil, ↓x_pCons, ↓x_forS, ↓x_diSL, ↓x_diKeys, ↓x_lock, ↓x_dictP, ↓x_fld, ↓x_fldS, ↓x_fldA, ↓x_meth, ↓x_make, ↓x_dget, ↓x_din, ↓x_dget1, ↓x_dget2, ↓x_dpop, ↓x_dput, ↓x_listD, ↓x_sortDI, ↓x_lenD, ↓x_isiC, x_icS, x_icI, x_icB, x_icN, x_ioS, x_ioI, x_ioB, x_ioN, ↓x_gSub, ↓x_sortDL, ↓x_eqO, ↓x_ninA, x_catN, x_isBB, x_isBN, x_isBI, x_isBS, x_isBR, ↓x_seq, ↓x_nx, ↓x_pass, ↓x_brk, ↓x_cnt, ↓x_drop, ↓x_ret, ↓x_retN, ↓x_ifS, ↓x_set, ↓x_asg, ↓x_gN, ↓x_gT, ↓x_gsC, ↓x_gsN, ↓x_var, x_rdv, ↓x_c, ↓x_op, ↓x_test, x_tst, ↓x_and, ↓x_or, ↓x_not, ↓x_andV, ↓x_orV, ↓x_notV, x_tstV, ↓x_ifE, x_true, x_false, ↓x_nil, ↓x_cons, ↓x_tup, ↓x_lst, ↓x_new, ↓x_newD, ↓x_call, ↓x_cb, x_oI, x_oIc, x_oS, x_addS, x_isN, x_notN, x_eqI, x_eqS, x_eqIS, x_eqSI, x_eqNS, x_neI, x_neS, x_neB, x_eqB, x_few, x_need, ↓x_ix, x_lenS, x_ixL0, x_ixT0, x_ixT1, x_ixT2, x_ixT3, x_ixT4, x_lenL, x_lenT, x_lenC, x_listL, x_listT, x_tupL, x_tupT, x_strI, x_strS, x_int1, x_intB, x_I1, x_I2, x_cat, x_catT, ↓x_split, ↓x_for, ↓x_cut, ↓x_lc, ↓x_whl, ↓x_diL, ↓x_diT, ↓x_diS, x_itL, x_itC, x_itT, x_itS, ↓x_diR1, ↓x_diR2, ↓x_diE, x_enmL, x_enmC, ↓x_gcN, ↓x_gcT, ↓x_yes, ↓x_ml, ↓x_ms, x_strq, x_ss, x_ssc, x_ssi, ↓x_join, ↓x_aug, x_st2I, ↓x_sl, ↓x_noP, ↓x_part, x_intq, x_slL, x_slC, x_slS, ↓x_in, x_inT, x_inL, x_ninT, x_ninL, x_inN, x_inSS, x_inSI, x_inIS, x_inII, ↓x_sg, x_sgS, x_nsgS, ↓x_eqD, ↓x_inDD, x_mulS, ↓x_isi, x_isiS, x_isiI, x_isiB, x_isiN, x_isiL, x_isiT, ↓x_isTT, x_itI, x_itStr, x_itN, x_itB, x_itLst, x_itTup, ↓x_any, ↓x_all, ↓x_sum, ↓x_srtI, ↓x_srtS, ↓x_intS, ↓x_lenRf, ↓x_tupRf, ↓x_frz', x_flS, x_flI, x_flN, x_flB, x_cs_bool, x_isB_NoneType_bool, x_isB_bool_bool, x_isB_int_bool, x_isB_str_bool, x_isB_list_bool, x_isB_tuple_bool, x_isB_dict_bool, x_cs_int, x_isB_NoneType_int, x_isB_bool_int, x_isB_int_int, x_isB_str_int, x_isB_list_int, x_isB_tuple_int, x_isB_dict_int, x_cs_str, x_isB_NoneType_str, x_isB_bool_str, x_isB_int_str, x_isB_str_str, x_isB_list_str, x_isB_tuple_str, x_isB_dict_str, x_cs_list, x_isB_NoneType_list, x_isB_bool_list, x_isB_int_list, x_isB_str_list, x_isB_list_list, x_isB_tuple_list, x_isB_dict_list, x_cs_tuple, x_isB_NoneType_tuple, x_isB_bool_tuple, x_isB_int_tuple, x_isB_str_tuple, x_isB_list_tuple, x_isB_tuple_tuple, x_isB_dict_tuple, x_cs_dict, x_isB_NoneType_dict, x_isB_bool_dict, x_isB_int_dict, x_isB_str_dict, x_isB_list_dict, x_isB_tuple_dict, x_isB_dict_dict, List.all_cons, List.all_nil, Bool.and_self, Bool.or_false, Bool.or_true, Bool.false_or, Bool.true_or, wipeD, setD, DL.isNon, List.set_cons_zero, List.set_cons_succ, List.getElem?_cons_zero, List.getElem?_cons_succ, List.length_cons, List.length_nil, Nat.zero_add, List.cons_append, List.nil_append, decide_true, decide_false, Bool.not_true, Bool.not_false, true_and, and_true, startD, List.map_cons, List.map_nil, Nat.reduceSub, Nat.reduceLeDiff, Nat.zero_le, Int.reduceLT, Int.reduceLE, and_self, Nat.reduceAdd, List.replicate])
section
variable {k : Nat} {I : Ix} {ks : List Nat} {H : HA} {M : ML → Addr} {s : Hs} {th w : Addr} {S : Sto}
end
end
end K

set_option Elab.async false
set_option linter.all false
set_option maxRecDepth 100000
/-! ### data: == of a dict and an empty one -/
namespace L2
open PySem PySem.Spec PyProof.Rows
section
variable {X : Cx}
end
end L2
namespace DL
open PySem L2 Evl EX
section
variable {K : PySem.W.Frag}
def oEqE : DR2 := fun x y S k => ∃ a b kvs, x = .ref a ∧ y = .ref b ∧ S a = some (.dct kvs) ∧ S b = some (.dct []) ∧ k (.bl kvs.isEmpty) S
end
section
variable {S : Sto} {k : DK} {x y : D} {a b : Addr} {kvs : List (Key × D)}
theorem x_eqE : oEqE x y S k = st2 oEqE x y S k ⟨⟩ := propext Iff.rfl
end
end DL

set_option Elab.async false
set_option linter.all false
set_option maxRecDepth 100000
namespace K
open PySem L2 Evl EX DL HM
/-- an initial hall with its ender -/
def H0X (e p1 p2 p3 hl th lf dx : Addr) : HA := { a := fun l => match l with | .hall => hl | .th => th | .lf => lf | .x 0 => e | .x 1 => p1 | .x 2 => p2 | .x 3 => p3 | _ => hl, dx := dx, dt := fun _ => hl }
theorem nodup_inj {α β : Type} {f : α → β} : ∀ {ls : List α}, (ls.map f).Nodup → ∀ {a b : α}, a ∈ ls → b ∈ ls → f a = f b → a = b
  | [], _, a, b, h, _, _ => by cases h
  | c :: ls, nd, a, b, ha, hb, e => by
    rw [List.map_cons, List.nodup_cons] at nd
    rcases List.mem_cons.mp ha with h1 | h1 <;> rcases List.mem_cons.mp hb with h2 | h2
    · rw [h1, h2]
    · exact absurd (List.mem_map.mpr ⟨b, h2, by rw [← e, h1]⟩) nd.1
    · exact absurd (List.mem_map.mpr ⟨a, h1, by rw [e, h2]⟩) nd.1
    · exact nodup_inj nd.2 h1 h2 e
/-- places that stand, no two alike -/
def Lv (S : Sto) (l : List Addr) : Prop := l.Nodup ∧ ∀ a ∈ l, S a ≠ none
theorem Lv.add {S S' : Sto} {l : List Addr} {p : Addr} (h : Lv S l) (hp : S p = none) (hk : ∀ a, S a ≠ none → S' a ≠ none) (h' : S' p ≠ none) : Lv S' (p :: l) := by
  refine ⟨List.nodup_cons.mpr ⟨fun z => h.2 p z hp, h.1⟩, fun a ha => ?_⟩
  rcases List.mem_cons.mp ha with rfl | ha
  · exact h'
  · exact hk a (h.2 a ha)
theorem Lv.adds {S S' : Sto} {l ps : List Addr} (h : Lv S l) (nd : ps.Nodup) (hp : ∀ p ∈ ps, S p = none) (hk : ∀ a, S a ≠ none → S' a ≠ none) (h' : ∀ p ∈ ps, S' p ≠ none) : Lv S' (ps ++ l) := by
  refine ⟨List.nodup_append.mpr ⟨nd, h.1, fun a ha b hb e => h.2 b hb (by rw [← e]; exact hp a ha)⟩, fun a ha => ?_⟩
  rcases List.mem_append.mp ha with ha | ha
  · exact h' a ha
  · exact hk a (h.2 a ha)
theorem Lv.keep {S S' : Sto} {l : List Addr} (h : Lv S l) (hk : ∀ a, S a ≠ none → S' a ≠ none) : Lv S' l := ⟨h.1, fun a ha => hk a (h.2 a ha)⟩
theorem put_live {S : Sto} {p : Addr} {o : O} {a : Addr} (h : S a ≠ none) : DL.put S p o a ≠ none := by
  by_cases z : a = p
  · rw [z, put_same]; exact nofun
  · rw [put_ne z]; exact h
section
variable {CT CH CE e p1 p2 p3 hl th lf dx dxe w : Addr} {S : Sto}
theorem live0X : ∀ l, hC CT CH ((⟨dxe, [], fun _ => [], 0⟩ : Ix).en CE) (H0X e p1 p2 p3 hl th lf dx) s0 l ≠ none → l ∈ [HL.lf, .th, .hall, .x 3, .x 2, .x 1, .x 0] := fun l h => by
  cases l with
  | hall => simp
  | th => simp
  | lf => simp
  | row => exact absurd rfl h
  | t n => exact absurd (if_neg fun z => by have : s0.many = 0 := rfl; omega) h
  | pd n => exact absurd (if_neg fun z => by have : s0.many = 0 := rfl; omega) h
  | x i =>
    rcases i with _ | _ | _ | _ | i
    · simp
    · simp
    · simp
    · simp
    · exact absurd rfl h
theorem hrep0X (lv : Lv S [lf, th, hl, p3, p2, p1, e, w]) (e1 : S hl = some (.ins CH dx (haFs (.ref e) (.int 0) (.ref th) (.ref lf) .non (.int 0)))) (e2 : S th = some (.dct [])) (e3 : S lf = some (.lst [])) (e4 : S e = some (.ins CE dxe (enFs (.ref hl) (.ref p1) (.ref p2) (.ref p3)))) (e5 : S p1 = some (.dct [])) (e6 : S p2 = some (.lst [])) (e7 : S p3 = some (.lst [])) :
    HRep CT CH ((⟨dxe, [], fun _ => [], 0⟩ : Ix).en CE) (H0X e p1 p2 p3 hl th lf dx) s0 S ∧ ∀ l, hC CT CH ((⟨dxe, [], fun _ => [], 0⟩ : Ix).en CE) (H0X e p1 p2 p3 hl th lf dx) s0 l ≠ none → w ≠ (H0X e p1 p2 p3 hl th lf dx).a l := by
  have nd := lv.1
  have nd7 : ([HL.lf, .th, .hall, .x 3, .x 2, .x 1, .x 0].map (H0X e p1 p2 p3 hl th lf dx).a).Nodup := by
    show [lf, th, hl, p3, p2, p1, e].Nodup
    exact nd.sublist (List.sublist_append_left [lf, th, hl, p3, p2, p1, e] [w])
  have nw : w ∉ [lf, th, hl, p3, p2, p1, e] := fun z => by
    have := (List.nodup_append (l₁ := [lf, th, hl, p3, p2, p1, e]) (l₂ := [w])).mp nd
    exact this.2.2 w z w (by simp) rfl
  refine ⟨⟨fun {l o} h => ?_, fun {l l'} h h' z => nodup_inj nd7 (live0X l h) (live0X l' h') z⟩, fun l hl' z => nw ?_⟩
  · cases l with
    | hall => cases h; exact e1
    | th => cases h; exact e2
    | lf => cases h; exact e3
    | row => cases h
    | t n => rw [show hC CT CH ((⟨dxe, [], fun _ => [], 0⟩ : Ix).en CE) (H0X e p1 p2 p3 hl th lf dx) s0 (.t n) = none from if_neg fun z => by have : s0.many = 0 := rfl; omega] at h; cases h
    | pd n => rw [show hC CT CH ((⟨dxe, [], fun _ => [], 0⟩ : Ix).en CE) (H0X e p1 p2 p3 hl th lf dx) s0 (.pd n) = none from if_neg fun z => by have : s0.many = 0 := rfl; omega] at h; cases h
    | x i =>
      rcases i with _ | _ | _ | _ | i
      · cases h; exact e4
      · cases h; exact e5
      · cases h; exact e6
      · cases h; exact e7
      · cases h
  · have := List.mem_map.mpr ⟨l, live0X l hl', z.symm⟩
    exact this
end
section
variable {P : Program} {w : World} {K : PySem.W.Frag} {mg : Str → Option Value} {base : Heap} {CT CH CE : Addr}
local macro_rules | `(tactic| walk_at "dl") => `(tactic| try simp only [↓x_lcN, ↓x_lcSN, ↓x_catM, ↓x_catMN, ↓x_inO, ↓x_eqE, ↓x_neV, ↓x_sortSet, ↓x_sortDLN, ↓x_lrg, ↓x_neg, ↓x_lcS, ↓x_lockE, ↓x_eqA, ↓x_dictD, ↓x_disp, ↓x_pNil, ↓x_pCons, ↓x_forS, ↓x_diSL, ↓x_diKeys, ↓x_lock, ↓x_dictP, ↓x_fld, ↓x_fldS, ↓x_fldA, ↓x_meth, ↓x_make, ↓x_dget, ↓x_din, ↓x_dget1, ↓x_dget2, ↓x_dpop, ↓x_dput, ↓x_listD, ↓x_sortDI, ↓x_lenD, ↓x_isiC, x_icS, x_icI, x_icB, x_icN, x_ioS, x_ioI, x_ioB, x_ioN, ↓x_gSub, ↓x_sortDL, ↓x_eqO, ↓x_ninA, x_catN, x_isBB, x_isBN, x_isBI, x_isBS, x_isBR, ↓x_seq, ↓x_nx, ↓x_pass, ↓x_brk, ↓x_cnt, ↓x_drop, ↓x_ret, ↓x_retN, ↓x_ifS, ↓x_set, ↓x_asg, ↓x_gN, ↓x_gT, ↓x_gsC, ↓x_gsN, ↓x_var, x_rdv, ↓x_c, ↓x_op, ↓x_test, x_tst, ↓x_and, ↓x_or, ↓x_not, ↓x_andV, ↓x_orV, ↓x_notV, x_tstV, ↓x_ifE, x_true, x_false, ↓x_nil, ↓x_cons, ↓x_tup, ↓x_lst, ↓x_new, ↓x_newD, ↓x_call, ↓x_cb, x_oI, x_oIc, x_oS, x_addS, x_isN, x_notN, x_eqI, x_eqS, x_eqIS, x_eqSI, x_eqNS, x_neI, x_neS, x_neB, x_eqB, x_few, x_need, ↓x_ix, x_lenS, x_ixL0, x_ixT0, x_ixT1, x_ixT2, x_ixT3, x_ixT4, x_lenL, x_lenT, x_lenC, x_listL, x_listT, x_tupL, x_tupT, x_strI, x_strS, x_int1, x_intB, x_I1, x_I2, x_cat, x_catT, ↓x_split, ↓x_for, ↓x_cut, ↓x_lc, ↓x_whl, ↓x_diL, ↓x_diT, ↓x_diS, x_itL, x_itC, x_itT, x_itS, ↓x_diR1, ↓x_diR2, ↓x_diE, x_enmL, x_enmC, ↓x_gcN, ↓x_gcT, ↓x_yes, ↓x_ml, ↓x_ms, x_strq, x_ss, x_ssc, x_ssi, ↓x_join, ↓x_aug, x_st2I, ↓x_sl, ↓x_noP, ↓x_part, x_intq, x_slL, x_slC, x_slS, ↓x_in, x_inT, x_inL, x_ninT, x_ninL, x_inN, x_inSS, x_inSI, x_inIS, x_inII, ↓x_sg, x_sgS, x_nsgS, ↓x_eqD, ↓x_inDD, x_mulS, ↓x_isi, x_isiS, x_isiI, x_isiB, x_isiN, x_isiL, x_isiT, ↓x_isTT, x_itI, x_itStr, x_itN, x_itB, x_itLst, x_itTup, ↓x_any, ↓x_all, ↓x_sum, ↓x_srtI, ↓x_srtS, ↓x_intS, ↓x_lenRf, ↓x_tupRf, ↓x_frz', x_flS, x_flI, x_flN, x_flB, x_cs_bool, x_isB_NoneType_bool, x_isB_bool_bool, x_isB_int_bool, x_isB_str_bool, x_isB_list_bool, x_isB_tuple_bool, x_isB_dict_bool, x_cs_int, x_isB_NoneType_int, x_isB_bool_int, x_isB_int_int, x_isB_str_int, x_isB_list_int, x_isB_tuple_int, x_isB_dict_int, x_cs_str, x_isB_NoneType_str, x_isB_bool_str, x_isB_int_str, x_isB_str_str, x_isB_list_str, x_isB_tuple_str, x_isB_dict_str, x_cs_list, x_isB_NoneType_list, x_isB_bool_list, x_isB_int_list, x_isB_str_list, x_isB_list_list, x_isB_tuple_list, x_isB_dict_list, x_cs_tuple, x_isB_NoneType_tuple, x_isB_bool_tuple, x_isB_int_tuple, x_isB_str_tuple, x_isB_list_tuple, x_isB_tuple_tuple, x_isB_dict_tuple, x_cs_dict, x_isB_NoneType_dict, x_isB_bool_dict, x_isB_int_dict, x_isB_str_dict, x_isB_list_dict, x_isB_tuple_dict, x_isB_dict_dict, List.all_cons, List.all_nil, Bool.and_self, Bool.or_false, Bool.or_true, Bool.false_or, Bool.true_or, wipeD, setD, DL.isNon, List.set_cons_zero, List.set_cons_succ, List.getElem?_cons_zero, List.getElem?_cons_succ, List.length_cons, List.length_nil, Nat.zero_add, List.cons_append, List.nil_append, decide_true, decide_false, Bool.not_true, Bool.not_false, true_and, and_true, startD, List.map_cons, List.map_nil, Nat.reduceSub, Nat.reduceLeDiff, Nat.zero_le, Int.reduceLT, Int.reduceLE, and_self, Nat.reduceAdd, List.replicate])
end
end K

set_option Elab.async false
set_option linter.all false
set_option maxRecDepth 100000
/-! ### data: == of a dict and an empty one; how many whole numbers a list has, doubles once -/
namespace L2
open PySem PySem.Spec PyProof.Rows
section
variable {X : Cx}
end
end L2
namespace DL
open PySem L2 Evl EX
section
variable {K : PySem.W.Frag}
theorem R.sub {B : Hp} {S : Sto} {H : Hp} {p : Addr} {o : O} (r : R K B (put S p o) H) (hp : S p = none) : R K B S H := ⟨r.ex, fun a u e => by
  have : a ≠ p := fun z => by rw [z, hp] at e; cases e
  exact r.own a u (by rw [put_ne this]; exact e)⟩
/-- == {}, != {}: the new dict counts no more -/
def dIsE (rd : DR2) (da : DE) : DE := fun δ S k => dOp rd da dNewD δ S fun z S2 => ∃ S1 p, S1 p = none ∧ S2 = put S1 p (.dct []) ∧ k z S1
def isEq (rd : DR2) (x : D) (S : Sto) (k : DK) (_ : Tag k) : Prop := ∀ p, S p = none → rd x (.ref p) (put S p (.dct [])) fun z S2 => ∃ S1 p, S1 p = none ∧ S2 = put S1 p (.dct []) ∧ k z S1
end
section
variable {X : Cx} {K : PySem.W.Frag}
end
section
variable {S : Sto} {k : DK} {x y : D} {a b : Addr} {kvs : List (Key × D)} {rd : DR2} {da : DE} {δ : Dst}
theorem x_isE : dIsE rd da δ S k = da δ S fun x S1 => isEq rd x S1 k ⟨⟩ := propext Iff.rfl
end
/-! how many -/
def dLenSetI (da : DE) : DE := fun δ S k => da δ S fun x S1 => ∃ ns : List Int, SeqD S1 x (ns.map D.int) ∧ ns.length ≤ 4000 ∧ (∀ ds, x ≠ .tup ds) ∧ ∀ c : Nat, (ns.Nodup → c = ns.length) → k (.int (c : Int)) S1
def lsi (x : D) (S : Sto) (k : DK) (_ : Tag k) : Prop := ∃ ns : List Int, SeqD S x (ns.map D.int) ∧ ns.length ≤ 4000 ∧ (∀ ds, x ≠ .tup ds) ∧ ∀ c : Nat, (ns.Nodup → c = ns.length) → k (.int (c : Int)) S
theorem x_lenSetI {da : DE} {δ : Dst} {S : Sto} {k : DK} : dLenSetI da δ S k = da δ S fun x S1 => lsi x S1 k ⟨⟩ := propext Iff.rfl
end DL

set_option Elab.async false
set_option linter.all false
set_option maxRecDepth 100000
/-! ### data: == of an empty dict and a dict -/
namespace L2
open PySem PySem.Spec PyProof.Rows
section
variable {X : Cx}
end
end L2
namespace DL
open PySem L2 Evl EX
section
variable {K : PySem.W.Frag}
def oEqF : DR2 := fun x y S k => ∃ a b kvs, x = .ref a ∧ y = .ref b ∧ S a = some (.dct []) ∧ S b = some (.dct kvs) ∧ k (.bl kvs.isEmpty) S
end
section
variable {S : Sto} {k : DK} {x y : D} {a b : Addr} {kvs : List (Key × D)}
theorem x_eqF : oEqF x y S k = st2 oEqF x y S k ⟨⟩ := propext Iff.rfl
end
end DL

set_option Elab.async false
set_option linter.all false
set_option maxRecDepth 100000
/-! ### halls in which lasts hold by parts alone (no program in sight) -/
namespace HM
open PySem L2 DL
structure J7 (m0 : Nat) (s : Hs) : Prop where
  a : ∀ i, m0 < i → s.parts i = []
  b : ∀ n ∈ s.there, s.cnt n = 0 → n ∈ s.waits
  c : ∀ n ∈ s.left, n ∈ s.asked
  d1 : ∀ n, 1 ≤ n → n ≤ s.many → n ∈ s.there ∨ n ∈ s.left
  d2 : ∀ n ∈ s.there, n ∉ s.left
  d3 : s.left.Nodup
  d4 : ∀ n ∈ s.left, 1 ≤ n ∧ n ≤ s.many
  e : s.ends = []
section
variable {m0 : Nat} {s : Hs}
theorem J7.loosed (j : J7 m0 s) (v : Vl) : J7 m0 (s.loosed v) := by
  cases v with
  | no d => exact j
  | th n =>
    rw [loosed_th]
    split
    · rename_i h
      refine ⟨j.a, fun i hi hc => ?_, j.c, j.d1, j.d2, j.d3, j.d4, j.e⟩
      show i ∈ s.waits ++ [n]
      by_cases z : i = n
      · rw [z]; simp
      · have hc : fset s.cnt n (s.cnt n - 1) i = 0 := hc
        rw [fset_ne z] at hc
        exact List.mem_append_left _ (j.b i hi hc)
    · rename_i h
      refine ⟨j.a, fun i hi hc => ?_, j.c, j.d1, j.d2, j.d3, j.d4, j.e⟩
      show i ∈ s.waits
      by_cases z : i = n
      · subst z
        exact Classical.byContradiction fun y => h (enqs_iff.mpr ⟨hc, hi, y⟩)
      · have hc : fset s.cnt n (s.cnt n - 1) i = 0 := hc
        rw [fset_ne z] at hc
        exact j.b i hi hc
theorem J7.row (j : J7 m0 s) (r : Option (List Nat)) : J7 m0 { s with row := r } := ⟨j.a, j.b, j.c, j.d1, j.d2, j.d3, j.d4, j.e⟩
theorem J7.emptied {n : Nat} : ∀ {l : List (Key × Vl)} {s : Hs}, J7 m0 s → s.parts n = l → J7 m0 (s.emptied n l)
  | [], s, j, _ => j
  | kv :: l, s, j, h => by
    have j1 : J7 m0 { s with parts := fset s.parts n l } := ⟨fun i hi => by
      show fset s.parts n l i = []
      by_cases z : i = n
      · have := j.a i hi
        rw [z, h] at this
        cases this
      · rw [fset_ne z]; exact j.a i hi, j.b, j.c, j.d1, j.d2, j.d3, j.d4, j.e⟩
    exact J7.emptied (l := l) (j1.loosed kv.2) (by rw [loosed_parts]; exact fset_same)
theorem J7.put (j : J7 m0 s) (g : Good s) {n : Nat} (hn : n ≤ m0) (k : Key) (v : Vl) : J7 m0 (s.putP n k v) := by
  have e1 : (s.putP n k v).there = s.there ∧ (s.putP n k v).waits = s.waits ∧ (s.putP n k v).left = s.left ∧ (s.putP n k v).asked = s.asked ∧ (s.putP n k v).many = s.many ∧ (s.putP n k v).ends = s.ends := by unfold Hs.putP; cases v <;> exact ⟨rfl, rfl, rfl, rfl, rfl, rfl⟩
  obtain ⟨p1, p2, p3, p4, p5, p6⟩ := e1
  refine ⟨fun i hi => ?_, fun i hi hc => ?_, by rw [p3, p4]; exact j.c, by rw [p5, p1, p3]; exact j.d1, by rw [p1, p3]; exact j.d2, by rw [p3]; exact j.d3, by rw [p3, p5]; exact j.d4, p6.trans j.e⟩
  · show fset s.parts n (gput (s.parts n) k v) i = []
    rw [fset_ne (by omega)]
    exact j.a i hi
  · rw [p1] at hi
    rw [p2]
    refine j.b i hi ?_
    have h1 : (s.putP n k v).cnt i = (s.held v).cnt i := by unfold Hs.putP; cases v <;> rfl
    rw [h1, held_cnt] at hc
    have := g.nonneg i
    omega
theorem J7.drop (j : J7 m0 s) {n : Nat} (hn : n ≤ m0) (k : Key) : J7 m0 (s.dropP n k) := ⟨fun i hi => by
  show fset s.parts n (gdrop (s.parts n) k) i = []
  rw [fset_ne (by omega)]
  exact j.a i hi, j.b, j.c, j.d1, j.d2, j.d3, j.d4, j.e⟩
/-- a thing made and held at once -/
theorem J7.madePut (j : J7 m0 s) (w : Wf s) (g : Good s) {n : Nat} (hn : n ≤ m0) (k : Key) (f o : D) : J7 m0 ((s.made f o).putP n k (.th (s.many + 1))) := by
  refine ⟨fun i hi => ?_, fun i hi hc => ?_, j.c, fun i h1 h2 => ?_, fun i hi => ?_, j.d3, fun i hi => ?_, j.e⟩
  · show fset s.parts n (gput (s.parts n) k (.th (s.many + 1))) i = []
    rw [fset_ne (by omega)]
    exact j.a i hi
  · have hc : fset (fset s.cnt (s.many + 1) 0) (s.many + 1) (fset s.cnt (s.many + 1) 0 (s.many + 1) + 1) i = 0 := hc
    have hi : i ∈ s.there ++ [s.many + 1] := hi
    show i ∈ s.waits
    by_cases z : i = s.many + 1
    · rw [z, fset_same, fset_same] at hc; omega
    · rw [fset_ne z, fset_ne z] at hc
      exact j.b i ((List.mem_append.mp hi).resolve_right fun y => z (List.mem_singleton.mp y)) hc
  · have h2 : i ≤ s.many + 1 := h2
    show i ∈ s.there ++ [s.many + 1] ∨ i ∈ s.left
    by_cases z : i = s.many + 1
    · exact .inl (by rw [z]; simp)
    · exact (j.d1 i h1 (by omega)).imp (List.mem_append_left _) id
  · have hi : i ∈ s.there ++ [s.many + 1] := hi
    show i ∉ s.left
    rcases List.mem_append.mp hi with hi | hi
    · exact j.d2 i hi
    · rw [List.mem_singleton.mp hi]
      exact fun y => by have := j.d4 _ y; omega
  · have := j.d4 i hi
    exact ⟨this.1, Nat.le_succ_of_le this.2⟩
theorem J7.hold (j : J7 m0 s) (g : Good s) (n : Nat) : J7 m0 (s.holdM n) := ⟨j.a, fun i hi hc => by
  have hc : fset s.cnt n (s.cnt n + 1) i = 0 := hc
  by_cases z : i = n
  · subst z
    rw [fset_same] at hc
    have := g.nonneg i
    omega
  · rw [fset_ne z] at hc; exact j.b i hi hc, j.c, j.d1, j.d2, j.d3, j.d4, j.e⟩
end
/-- deeds by parts alone -/
theorem dp_n {p : Pl} {m : Nat} (h : p.Pk m) {d : _root_.K.Dp} (e : p = .part d) : d.n ≤ m := by
  subst e
  cases d with
  | put n k v => exact h.2.1
  | take n k => exact h.2.1
  | make n k => exact h.2.1
def NP (p : Pl) : Prop := ∃ d, p = .part d
section
variable {m0 : Nat} {ask : AskR} (K : AskE ask) (HA : ∀ {s n s'}, ask s n s' → J7 m0 s → J7 m0 s' ∧ n ∈ s'.asked) {s s' : Hs} {n : Nat}
include K HA
theorem Turn.j7 (t : Turn ask s n s') (w : Wf s) (g : Good s) (j : J7 m0 s) : J7 m0 s' := by
  have up : ¬ (0 < s.cnt n ∨ n ∉ s.there) → J7 m0 ((s.unwait n).up n) := fun h => ⟨j.a, fun i hi hc => by
    have hc : fset s.cnt n (s.cnt n + 1) i = 0 := hc
    show i ∈ s.waits.erase n
    by_cases z : i = n
    · subst z
      rw [fset_same] at hc
      have := g.nonneg i
      omega
    · rw [fset_ne z] at hc
      exact (List.mem_erase_of_ne z).mpr (j.b i hi hc), j.c, j.d1, j.d2, j.d3, j.d4, j.e⟩
  cases t with
  | pass h =>
    refine ⟨j.a, fun i hi hc => ?_, j.c, j.d1, j.d2, j.d3, j.d4, j.e⟩
    show i ∈ s.waits.erase n
    have hc : s.cnt i = 0 := hc
    have hi : i ∈ s.there := hi
    by_cases z : i = n
    · subst z
      rcases h with h | h
      · omega
      · exact absurd hi h
    · exact (List.mem_erase_of_ne z).mpr (j.b i hi hc)
  | stay h1 h2 h3 =>
    rename_i s1
    obtain ⟨j1, _⟩ := HA h2 (up h1)
    refine ⟨j1.a, fun i hi hc => ?_, j1.c, j1.d1, j1.d2, j1.d3, j1.d4, j1.e⟩
    have hc' : fset s1.cnt n (s1.cnt n - 1) i = 0 := hc
    by_cases z : i = n
    · subst z; exact absurd hc h3
    · rw [fset_ne z] at hc'; exact j1.b i hi hc'
  | go h1 h2 h3 =>
    rename_i s1
    obtain ⟨j1, ja⟩ := HA h2 (up h1)
    have hn : n ∈ s.there := Classical.not_not.mp fun z => h1 (.inr z)
    have hn1 : n ∈ s1.there := K.ok.stay h2 hn
    have hb := (K.W h2).tin n hn1
    have j2 : J7 m0 ((s1.down n).gone n) := by
      refine ⟨j1.a, fun i hi hc => ?_, fun i hi => ?_, fun i g1 g2 => ?_, fun i hi => ?_, ?_, fun i hi => ?_, j1.e⟩
      · have hc' : fset s1.cnt n (s1.cnt n - 1) i = 0 := hc
        obtain ⟨h4, h5⟩ := List.mem_filter.mp hi
        have z : i ≠ n := of_decide_eq_true h5
        rw [fset_ne z] at hc'
        exact j1.b i h4 hc'
      · have hi : i ∈ s1.left ++ [n] := hi
        show i ∈ s1.asked
        rcases List.mem_append.mp hi with hi | hi
        · exact j1.c i hi
        · rw [List.mem_singleton.mp hi]; exact ja
      · show i ∈ s1.there.filter (fun i => decide (i ≠ n)) ∨ i ∈ s1.left ++ [n]
        by_cases z : i = n
        · exact .inr (by rw [z]; simp)
        · rcases j1.d1 i g1 g2 with h | h
          · exact .inl (List.mem_filter.mpr ⟨h, by simpa using z⟩)
          · exact .inr (List.mem_append_left _ h)
      · obtain ⟨h4, h5⟩ := List.mem_filter.mp hi
        have z : i ≠ n := of_decide_eq_true h5
        show i ∉ s1.left ++ [n]
        intro y
        rcases List.mem_append.mp y with y | y
        · exact j1.d2 i h4 y
        · exact z (List.mem_singleton.mp y)
      · show (s1.left ++ [n]).Nodup
        exact List.nodup_append.mpr ⟨j1.d3, by simp, fun a ha b hb e => by rw [List.mem_singleton.mp hb] at e; rw [e] at ha; exact j1.d2 n hn1 ha⟩
      · have hi : i ∈ s1.left ++ [n] := hi
        rcases List.mem_append.mp hi with hi | hi
        · exact j1.d4 i hi
        · rw [List.mem_singleton.mp hi]; exact hb
    have j3 := j2.emptied (n := n) (l := s1.parts n) rfl
    exact ⟨j3.a, j3.b, j3.c, j3.d1, j3.d2, j3.d3, j3.d4, j3.e⟩
theorem Work.j7 {f : Nat} (t : Work ask f s s') (w : Wf s) (g : Good s) (j : J7 m0 s) : J7 m0 s' := by
  induction t with
  | done h => exact j.row _
  | step h1 h2 h3 ih =>
    rename_i f n r s s1 s2
    obtain ⟨w1, w2, _⟩ := w.rowTail h1
    have g1 : Good { s with row := some r } := ⟨g.cnt, g.rnd, g.rt, g.rin, g.oin⟩
    have hr : ∀ l, ({ s with row := some r } : Hs).row = some l → n ∉ l := fun l hl => by cases hl; exact w2
    exact ih (h2.wf K.ok w1 hr).1 (h2.good K.good w1 g1 hr) (h2.j7 K HA w1 g1 (j.row _))
theorem Loose.j7 {v : Vl} (t : Loose ask s v s') (w : Wf s) (g : GoodP s v) (j : J7 m0 s) : J7 m0 s' := by
  have gl := g.loosed
  have jl := j.loosed v
  cases t with
  | no => exact j
  | kept h => rw [loosed_th, if_neg (by rw [h]; exact nofun)] at jl; exact jl
  | wait h _ => rw [loosed_th, if_pos h] at jl; exact jl
  | work h h1 h2 =>
    rename_i n f
    rw [loosed_th, if_pos h] at gl jl
    have w1 := (w.dec n).enq h
    exact h2.j7 K HA ⟨w1.nd, w1.tin, w1.len, w1.most, w1.key, w1.plen, w1.pv, w1.wnd, w1.win, fun l hl => by
      cases hl
      exact ⟨by simp, fun i hi => by rw [List.mem_singleton.mp hi]; exact List.mem_append_right _ (List.mem_singleton.mpr rfl)⟩, w1.pz, w1.az, w1.kok, w1.eb, w1.an, w1.bs⟩ ⟨gl.cnt, gl.rnd, gl.rt, gl.rin, gl.oin⟩ (jl.row _)
theorem DpR.j7 {d : _root_.K.Dp} (r : d.R ask s s') (ok : d.Ok s) (hn : d.n ≤ m0) (w : Wf s) (g : Good s) (j : J7 m0 s) : J7 m0 s' := by
  cases r with
  | put t =>
    rename_i n k v
    obtain ⟨o1, o2, o3, o4⟩ := ok
    exact t.j7 K HA (w.putP (k := k) (w.tin n o1).2 o3 o2 o4) (g.putP w o1 k v) (j.put g hn k v)
  | take hv t =>
    rename_i n k v
    exact t.j7 K HA (w.dropP (k := k) (w.tin n ok).2) (g.dropP w ok hv) (j.drop hn k)
  | none h => exact j
  | make t =>
    rename_i n k
    obtain ⟨o1, o2, o3, o4⟩ := ok
    have wm : Wf (_root_.K.Hs.madeIn s) := w.made o3 _ _
    have gm : Good (_root_.K.Hs.madeIn s) := g.made w _ _
    have hnm : n ∈ (_root_.K.Hs.madeIn s).there := List.mem_append_left _ o1
    have hvo : VOk (_root_.K.Hs.madeIn s).many (.th (s.many + 1)) := ⟨Nat.succ_le_succ (Nat.zero_le _), Nat.le_refl _⟩
    exact t.j7 K HA (wm.putP (k := k) (n := n) (v := .th (s.many + 1)) (wm.tin n hnm).2 hvo o2 o4) (gm.putP wm hnm k (.th (s.many + 1))) (j.madePut w g hn k _ _)
theorem PlsR.j7 {l : List Pl} (t : PlsR ask l s s') (hl : ∀ p ∈ l, NP p ∧ p.Pk m0) (w : Wf s) (g : Good s) (h0 : s.row = none) (sl : Slk s) (j : J7 m0 s) : J7 m0 s' := by
  induction t with
  | nil => exact j
  | cons a b ih =>
    have x := a.stp K w g h0 sl
    obtain ⟨⟨d, rfl⟩, hp⟩ := hl _ (List.mem_cons_self ..)
    refine ih (fun p hp => hl p (List.mem_cons_of_mem _ hp)) x.W x.G x.row (x.ev.slk sl) ?_
    cases a with
    | pass _ => exact j
    | part _ ok _ r => exact DpR.j7 K HA r ok (dp_n hp rfl) w g j
end
def dMine : Dl → List Nat → List Nat
  | .hold n, l => l ++ [n]
  | .loose n, l => l.erase n
  | _, l => l
structure Dn7 (m0 : Nat) (d : Dl) (s s' : Hs) : Prop where
  j7 : J7 m0 s'
  cl : Cl s'
  waits : s'.waits = s.waits
  rest : s'.rest = s.rest
  mine : s'.mine = dMine d s.mine
  stay : ∀ i ∈ s.there, 0 < s'.mine.count i → i ∈ s'.there
  oc : (∀ i, s.outer.count i = s.mine.count i) → ∀ i, s'.outer.count i = s'.mine.count i
end HM

set_option Elab.async false
set_option linter.all false
set_option maxRecDepth 100000
/-! ### sweeps in halls whose lasts hold by parts alone; that sweeps come to an end (no program in sight) -/
namespace HM
open PySem L2 DL
theorem rch_there {s : Hs} {rs : List Vl} (c : Cl s) (hr : ∀ n, Vl.th n ∈ rs → n ∈ s.there) {n : Nat} (h : Rch (ledP s) rs n) : n ∈ s.there := by
  induction h with
  | root h => exact hr _ h
  | step _ h ih =>
    obtain ⟨kv, hk, e⟩ := List.mem_map.mp h
    exact c.cl _ ih kv hk _ e
theorem cnt_out {s : Hs} (g : Good s) {i : Nat} (h : 0 < s.outer.count i) : s.cnt i ≠ 0 := by
  have h1 := g.eq i
  unfold cntF at h1
  omega
/-- what is reached has a hold -/
theorem rch_cnt {s : Hs} {rs : List Vl} (g : Good s) (c : Cl s) (hr : ∀ n, Vl.th n ∈ rs → n ∈ s.there) {n : Nat} (h : Rch (ledP s) rs n) : Vl.th n ∈ rs ∨ s.cnt n ≠ 0 := by
  cases h with
  | root h => exact .inl h
  | step h1 h =>
    obtain ⟨kv, hk, e⟩ := List.mem_map.mp h
    exact .inr (cnt_held g (rch_there c hr h1) hk e)
section
variable {m0 : Nat} {s : Hs}
theorem J7.up (j : J7 m0 s) (g : Good s) (n : Nat) : J7 m0 (s.up n) := ⟨j.a, fun i hi hc => by
  have hc : fset s.cnt n (s.cnt n + 1) i = 0 := hc
  by_cases z : i = n
  · subst z
    rw [fset_same] at hc
    have := g.nonneg i
    omega
  · rw [fset_ne z] at hc; exact j.b i hi hc, j.c, j.d1, j.d2, j.d3, j.d4, j.e⟩
theorem J7.ups : ∀ {l : List Nat} {s : Hs}, J7 m0 s → Good s → (∀ n ∈ l, n ≤ s.many) → J7 m0 (s.ups l)
  | [], _, j, _, _ => j
  | n :: l, s, j, g, h => J7.ups (l := l) (j.up g n) (g.up (h n (List.mem_cons_self ..))) fun i hi => h i (List.mem_cons_of_mem _ hi)
end
section
variable {m0 : Nat} {ask : AskR} (K : AskE ask) (HA : ∀ {s n s'}, ask s n s' → J7 m0 s → J7 m0 s' ∧ n ∈ s'.asked) {s s' : Hs} {rs : List Vl} {lost lost0 : List Nat} {s1 d g e : Hs} {f : Nat}
include K HA
end
/-- all that is there is reached -/
def Clean (rs : List Vl) (s : Hs) : Prop := ∀ n ∈ s.there, Rch (ledP s) rs n
section
variable {pl : Nat → List Pl} {mp k : Nat} (P : Pn pl mp) {s s' : Hs} {rs : List Vl} {lost : List Nat}
include P
theorem us_less {a l : List Nat} {n : Nat} (h : n ∉ a) (hl : n ∈ a ++ l) (hp : pl n ≠ []) : us pl mp (a ++ l) < us pl mp a := by
  have h1 := us_ask P h hp
  have h2 : us pl mp (a ++ l) ≤ us pl mp (a ++ [n]) := msum_le' fun i => by
    unfold usF
    by_cases z : i ∈ a ++ l
    · rw [if_pos z]; exact Nat.zero_le _
    · have z2 : i ∉ a ++ [n] := by
        intro y
        rcases List.mem_append.mp y with y | y
        · exact z (List.mem_append_left _ y)
        · rw [List.mem_singleton.mp y] at z; exact z hl
      rw [if_neg z, if_neg z2]
      exact Nat.le_refl _
  omega
omit P in
theorem ask_in {d n : Nat} (h : askD pl mp d s n s') : n ∈ s'.asked := by
  cases d with
  | zero => rw [h.2.2]; exact h.2.1
  | succ d =>
    obtain ⟨⟨gd, _⟩, h⟩ := h
    rcases h with ⟨h, rfl⟩ | ⟨hn, s1, hp, rfl⟩
    · exact h
    · have g := gd.G
      obtain ⟨l, hl⟩ := (hp.stp (askD_e pl mp d) (gd.W.asking (gd.W.tin n gd.there).2 hn) ⟨g.cnt, g.rnd, g.rt, g.rin, g.oin⟩ rfl gd.sl).ev.asked
      show n ∈ s1.asked
      rw [hl]
      exact List.mem_append_left _ (List.mem_append_right _ (List.mem_singleton.mpr rfl))
theorem all_idle {d : Nat} {l : List Nat} (t : AskAll (askD pl mp d) s l s') (h : us pl mp s.asked ≤ us pl mp s'.asked) : ∃ A, s' = { s with asked := A } := by
  have K := askD_e pl mp d
  induction t with
  | nil => exact ⟨_, rfl⟩
  | cons h1 h2 h3 ih =>
    rename_i s s1 s2 n l
    obtain ⟨l1, e1⟩ := (K.ev h2).asked
    obtain ⟨l2, e2⟩ := ((h3.ev K).1).asked
    have m2 : us pl mp s2.asked ≤ us pl mp s1.asked := by rw [e2]; exact us_mono
    have m1 : us pl mp s1.asked ≤ us pl mp s.asked := by rw [e1]; exact us_mono
    obtain ⟨A2, q⟩ := ih (by omega)
    have q1 : ∃ A, s1 = { s with asked := A } := by
      cases d with
      | zero => rw [h2.2.2]; exact ⟨_, rfl⟩
      | succ d =>
        have hin := ask_in h2
        obtain ⟨⟨gd, _⟩, h4⟩ := h2
        rcases h4 with ⟨h4, rfl⟩ | ⟨hn, s3, hp, rfl⟩
        · exact ⟨_, rfl⟩
        · by_cases z : pl n = []
          · rw [z] at hp
            cases hp
            exact ⟨s.asked ++ [n], rfl⟩
          · exfalso
            rw [e1] at hin
            have := us_less P hn hin z
            rw [← e1] at this
            omega
    obtain ⟨A1, q1⟩ := q1
    exact ⟨A2, by rw [q, q1]⟩
/-- a sweep asks a plan, or leaves what is reached alone -/
theorem Mid.clean {lost0 : List Nat} {s1 d g e : Hs} {f : Nat} (m : Mid (askD pl mp 13) rs s lost s' lost0 s1 d g e f) (c : Cl s) (sl : Slk s) (hrs : ∀ n, Vl.th n ∈ rs → n ∈ s.there ∧ s.ends.count n < s.outer.count n) (h : us pl mp s.asked ≤ us pl mp s'.asked) : Clean rs s' := by
  have K := askD_e pl mp 13
  obtain ⟨a1, a2, a3, a4, a5⟩ := m.asked K
  obtain ⟨u1, u2, u3, u4, u5, u6, u7, u8, u9, u10⟩ := ups_rest lost0 s
  obtain ⟨l2, e2⟩ := (m.wk.ev K m.Em.W m.Em.G).asked
  have h1 : us pl mp (s.ups lost0).asked ≤ us pl mp s1.asked := by
    rw [(ups_more lost0 s).2.2.1]
    have : us pl mp s'.asked ≤ us pl mp e.asked := by rw [e2]; exact us_mono
    rw [a1] at this
    omega
  obtain ⟨A, rfl⟩ := all_idle P m.A h1
  obtain ⟨d1, d2, d3, d4, d5, d6, d7, d8, d9⟩ := downs_rest lost0 ({ s.ups lost0 with asked := A } : Hs)
  rw [← m.ed] at d1 d2
  have dt : d.there = s.there := d1.trans u1
  have dp : d.parts = s.parts := d2.trans u2
  have dl : ledP d = ledP s := by unfold ledP; rw [dp]
  have hth : ∀ n, Vl.th n ∈ rs → n ∈ s.there := fun n hn => (hrs n hn).1
  have nl : ∀ n, Rch (ledP s) rs n → n ∉ lost0 := fun n hr z => ((m.L0.mem n).mp z).2 hr
  have el : ∀ n, n ∈ lost ↔ n ∈ lost0 := fun n => by
    refine ⟨m.sub n, fun hn => (m.L1.mem n).mpr ⟨hn, fun hr => ((m.L0.mem n).mp hn).2 ?_⟩⟩
    rw [dl] at hr
    have key : ∀ i, Rch (ledP s) (rs ++ (others d lost0).map Vl.th) i → Rch (ledP s) rs i := fun i hi => by
      induction hi with
      | root h =>
        rcases List.mem_append.mp h with h | h
        · exact .root h
        · obtain ⟨n', h1, h2⟩ := List.mem_map.mp h
          cases h2
          obtain ⟨p1, p2⟩ := List.mem_filter.mp h1
          rw [dt] at p1
          exact Classical.not_not.mp fun q => of_decide_eq_true p2 ((m.L0.mem _).mpr ⟨p1, q⟩)
      | step _ h ih => exact .step ih h
    exact key n hr
  have ep : ∀ n, Rch (ledP s) rs n → e.parts n = s.parts n := fun n hr => by
    rw [m.Em.same n fun z => nl n hr ((el n).mp z), m.Gn.parts]
    show d.parts n = _
    rw [dp]
  have et : ∀ n, n ∈ e.there ↔ n ∈ s.there ∧ n ∉ lost0 := fun n => by
    rw [m.Em.there, m.Gn.there n]
    show n ∈ d.there ∧ _ ↔ _
    rw [dt, el]
  have er : ∀ n, n ∈ e.there → Rch (ledP s) rs n := fun n hn => by
    obtain ⟨p1, p2⟩ := (et n).mp hn
    exact Classical.not_not.mp fun q => p2 ((m.L0.mem n).mpr ⟨p1, q⟩)
  have ere : ∀ n, Rch (ledP s) rs n → Rch (ledP e) rs n := fun n hr => by
    induction hr with
    | root h => exact .root h
    | step h1 h2 ih =>
      refine .step ih ?_
      unfold ledP at h2 ⊢
      rw [ep _ h1]
      exact h2
  have z0 : RowZ g := fun l hl n hn => by
    rw [m.Gn.row] at hl
    cases hl
    cases hn
  have ez := m.Em.z z0
  obtain ⟨r, hr, _⟩ := m.row K
  have r0 : r = [] := by
    refine List.eq_nil_iff_forall_not_mem.mpr fun n hn => ?_
    obtain ⟨h3, h4⟩ := ez r hr n hn
    have hth2 : ∀ n, Vl.th n ∈ rs → n ∈ e.there := fun n hn => (et n).mpr ⟨hth n hn, nl n (.root hn)⟩
    rcases rch_cnt m.Em.G m.Ce hth2 (ere n (er n h3)) with h5 | h5
    · obtain ⟨p1, p2⟩ := hrs n h5
      have h6 := (m.bal K sl n).1
      exact cnt_out m.Em.G (i := n) (by omega) h4
    · exact h5 h4
  subst r0
  have wk := m.wk
  cases wk with
  | step q1 _ _ => rw [hr] at q1; cases q1
  | done _ =>
    intro n hn
    exact ere n (er n hn)
omit P in
theorem Mid.still {ask : AskR} {lost0 : List Nat} {s1 d g e : Hs} {f : Nat} (m : Mid ask rs s lost s' lost0 s1 d g e f) (h : Clean rs s) : lost = [] ∧ s' = s := by
  have h0 : lost0 = [] := List.eq_nil_iff_forall_not_mem.mpr fun n hn => by
    obtain ⟨a, b⟩ := (m.L0.mem n).mp hn
    exact b (h n a)
  have h1 : lost = [] := List.eq_nil_iff_forall_not_mem.mpr fun n hn => by have := m.sub n hn; rw [h0] at this; cases this
  refine ⟨h1, ?_⟩
  have A := m.A
  have ed := m.ed
  have eg := m.eg
  have ee := m.ee
  have wk := m.wk
  have rn := m.rn
  subst h0 h1
  have es : s1 = s := by cases A; rfl
  subst es
  have ed : d = s1 := ed
  have eg : g = d.rowed (some []) := eg
  have ee : e = g := ee
  subst ee eg ed
  cases wk with
  | step q1 _ _ => cases q1
  | done _ =>
    show ({ d with row := none } : Hs) = d
    rw [← rn]
end
end HM

set_option Elab.async false
set_option linter.all false
set_option maxRecDepth 100000
/-! ### rings in a hall (no program in sight) -/
namespace HM
open PySem L2 DL
structure Rg where
  a : Nat
  l : Nat
def Rg.has (g : Rg) (n : Nat) : Prop := g.a < n ∧ n ≤ g.a + g.l
def Rg.fst (g : Rg) : Nat := g.a + 1
def kRing : Key := .inr "ring"
theorem Rch.trans {G : Nat → List Vl} {r : List Vl} {m n : Nat} (h1 : Rch G r m) (h2 : Rch G [.th m] n) : Rch G r n := by
  induction h2 with
  | root h =>
    have := List.mem_singleton.mp h
    cases this
    exact h1
  | step _ h ih => exact .step ih h
structure RgI (s : Hs) (rs : List Rg) (fo : Nat → Bool) : Prop where
  pos : ∀ (i : Nat) (g : Rg), rs[i]? = some g → 0 < g.l
  cov : ∀ n, 1 ≤ n → n ≤ s.many → ∃ (i : Nat) (g : Rg), rs[i]? = some g ∧ g.has n
  rng : ∀ (i : Nat) (g : Rg), rs[i]? = some g → g.a + g.l ≤ s.many
  ord : ∀ (i j : Nat) (g h : Rg), rs[i]? = some g → rs[j]? = some h → i < j → g.a + g.l ≤ h.a
  i1 : ∀ (i : Nat) (g : Rg) (n : Nat), rs[i]? = some g → g.has n → ∀ kv ∈ s.parts n, ∃ j, kv.2 = .th j ∧ ((kv.1 ≠ kRing ∧ g.has j) ∨ (n = g.fst ∧ kv.1 = kRing ∧ fo (i + 1) = true ∧ ∃ h : Rg, rs[i + 1]? = some h ∧ j = h.fst))
  i2 : ∀ (i : Nat) (g h : Rg), rs[i]? = some g → rs[i + 1]? = some h → fo (i + 1) = true → (kRing, Vl.th h.fst) ∈ s.parts g.fst
  i3 : ∀ (i : Nat) (g : Rg) (n : Nat), rs[i]? = some g → g.has n → Rch (ledP s) [.th g.fst] n
  i4 : ∀ (i : Nat) (g : Rg), rs[i]? = some g → ∃ m, g.has m ∧ Vl.th g.fst ∈ ledP s m
  fo0 : ∀ i, rs.length ≤ i → fo i = false
def st (kp fo : Nat → Bool) : Nat → Bool
  | 0 => kp 0
  | i + 1 => kp (i + 1) || (fo (i + 1) && st kp fo i)
section
variable {s s' : Hs} {rs : List Rg} {fo kp : Nat → Bool}
theorem Rg.one {g : Rg} (h : 0 < g.l) : g.has g.fst := ⟨Nat.lt_succ_self _, by unfold Rg.fst; omega⟩
theorem RgI.uniq (I : RgI s rs fo) {i j : Nat} {g h : Rg} {n : Nat} (hi : rs[i]? = some g) (hj : rs[j]? = some h) (h1 : g.has n) (h2 : h.has n) : i = j ∧ g = h := by
  have e : i = j := by
    obtain ⟨a1, a2⟩ := h1
    obtain ⟨b1, b2⟩ := h2
    rcases Nat.lt_trichotomy i j with z | z | z
    · have := I.ord i j g h hi hj z; omega
    · exact z
    · have := I.ord j i h g hj hi z; omega
  subst e
  rw [hi] at hj
  cases hj
  exact ⟨rfl, rfl⟩
/-- what is reached: the rings that stay -/
theorem RgI.reach (I : RgI s rs fo) {roots : List Vl} (hr : ∀ n, Vl.th n ∈ roots ↔ ∃ (i : Nat) (g : Rg), rs[i]? = some g ∧ kp i = true ∧ n = g.fst) (n : Nat) : Rch (ledP s) roots n ↔ ∃ (i : Nat) (g : Rg), rs[i]? = some g ∧ g.has n ∧ st kp fo i = true := by
  constructor
  · intro h
    induction h with
    | root h =>
      obtain ⟨i, g, h1, h2, rfl⟩ := (hr _).mp h
      refine ⟨i, g, h1, Rg.one (I.pos i g h1), ?_⟩
      cases i with
      | zero => exact h2
      | succ i => unfold st; rw [h2]; rfl
    | step _ h ih =>
      obtain ⟨i, g, h1, h2, h3⟩ := ih
      obtain ⟨kv, hk, e⟩ := List.mem_map.mp h
      obtain ⟨j, e2, h4⟩ := I.i1 i g _ h1 h2 kv hk
      rw [e] at e2
      cases e2
      rcases h4 with ⟨_, h4⟩ | ⟨_, _, h5, g2, h6, rfl⟩
      · exact ⟨i, g, h1, h4, h3⟩
      · refine ⟨i + 1, g2, h6, Rg.one (I.pos _ g2 h6), ?_⟩
        unfold st
        rw [h5, h3, Bool.and_self, Bool.or_true]
  · rintro ⟨i, g, h1, h2, h3⟩
    have key : ∀ (i : Nat) (g : Rg), rs[i]? = some g → st kp fo i = true → Rch (ledP s) roots g.fst := by
      intro i
      induction i with
      | zero => exact fun g h1 h2 => .root ((hr _).mpr ⟨0, g, h1, h2, rfl⟩)
      | succ i ih =>
        intro g h1 h2
        unfold st at h2
        by_cases z : kp (i + 1) = true
        · exact .root ((hr _).mpr ⟨i + 1, g, h1, z, rfl⟩)
        · have z : kp (i + 1) = false := by simpa using z
          rw [z, Bool.false_or, Bool.and_eq_true] at h2
          have hl : i < rs.length := by have := (List.getElem?_eq_some_iff.mp h1).1; omega
          have h4 := List.getElem?_eq_getElem hl
          exact .step (ih _ h4 h2.2) (List.mem_map.mpr ⟨_, I.i2 i _ g h4 h1 h2.1, rfl⟩)
    exact (key i g h1 h3).trans (I.i3 i g n h1 h2)
/-- a ring more -/
theorem RgI.grow (I : RgI s rs fo) (w : Wf s) {l : Nat} (hl : 0 < l) (hm : s'.many = s.many + l) (hp : ∀ n, n ≤ s.many → s'.parts n = s.parts n) (h1 : ∀ n, s.many < n → n ≤ s.many + l → ∀ kv ∈ s'.parts n, ∃ j, kv.2 = .th j ∧ kv.1 ≠ kRing ∧ s.many < j ∧ j ≤ s.many + l)
    (h3 : ∀ n, s.many < n → n ≤ s.many + l → Rch (ledP s') [.th (s.many + 1)] n) (h4 : ∃ m, s.many < m ∧ m ≤ s.many + l ∧ Vl.th (s.many + 1) ∈ ledP s' m) : RgI s' (rs ++ [⟨s.many, l⟩]) fo := by
  have cs : ∀ {i : Nat} {g : Rg}, (rs ++ [⟨s.many, l⟩])[i]? = some g → (i < rs.length ∧ rs[i]? = some g) ∨ (i = rs.length ∧ g = ⟨s.many, l⟩) := fun {i g} h => by
    by_cases z : i < rs.length
    · rw [List.getElem?_append_left z] at h; exact .inl ⟨z, h⟩
    · rw [List.getElem?_append_right (by omega)] at h
      by_cases y : i = rs.length
      · subst y
        rw [Nat.sub_self] at h
        cases h
        exact .inr ⟨rfl, rfl⟩
      · rw [List.getElem?_eq_none (by rw [List.length_singleton]; omega)] at h; cases h
  have up : ∀ {i : Nat} {g : Rg}, rs[i]? = some g → (rs ++ [⟨s.many, l⟩])[i]? = some g := fun {i g} h => by rw [List.getElem?_append_left (List.getElem?_eq_some_iff.mp h).1]; exact h
  have old : ∀ {i : Nat} {g : Rg} {n : Nat}, rs[i]? = some g → g.has n → s'.parts n = s.parts n := fun h1 h2 => hp _ (by have := I.rng _ _ h1; have := h2.2; omega)
  refine ⟨fun i g h => ?_, fun n h5 h6 => ?_, fun i g h => ?_, fun i j g h h5 h6 h7 => ?_, fun i g n h h5 kv hk => ?_, fun i g h h5 h6 h7 => ?_, fun i g n h h5 => ?_, fun i g h => ?_, fun i hi => I.fo0 i (by rw [List.length_append] at hi; omega)⟩
  · rcases cs h with ⟨_, h⟩ | ⟨_, rfl⟩
    · exact I.pos i g h
    · exact hl
  · by_cases z : n ≤ s.many
    · obtain ⟨i, g, a, b⟩ := I.cov n h5 z
      exact ⟨i, g, up a, b⟩
    · exact ⟨rs.length, ⟨s.many, l⟩, by rw [List.getElem?_append_right (Nat.le_refl _), Nat.sub_self]; rfl, by show s.many < n; omega, by show n ≤ s.many + l; omega⟩
  · rcases cs h with ⟨_, h⟩ | ⟨_, rfl⟩
    · have := I.rng i g h; omega
    · show s.many + l ≤ _; omega
  · rcases cs h5 with ⟨_, h5⟩ | ⟨q, rfl⟩
    · rcases cs h6 with ⟨_, h6⟩ | ⟨_, rfl⟩
      · exact I.ord i j g h h5 h6 h7
      · exact I.rng i g h5
    · rcases cs h6 with ⟨q2, h6⟩ | ⟨q2, rfl⟩
      · omega
      · omega
  · rcases cs h with ⟨q, h⟩ | ⟨_, rfl⟩
    · rw [old h h5] at hk
      obtain ⟨j, e, h6⟩ := I.i1 i g n h h5 kv hk
      refine ⟨j, e, ?_⟩
      rcases h6 with h6 | ⟨a, b, c, g2, d, e⟩
      · exact .inl h6
      · exact .inr ⟨a, b, c, g2, up d, e⟩
    · obtain ⟨j, e, h6, h7, h8⟩ := h1 n h5.1 h5.2 kv hk
      exact ⟨j, e, .inl ⟨h6, h7, h8⟩⟩
  · rcases cs h5 with ⟨q, h5'⟩ | ⟨q, rfl⟩
    · rcases cs h6 with ⟨_, h6⟩ | ⟨q2, rfl⟩
      · rw [old h5' (Rg.one (I.pos i g h5'))]
        exact I.i2 i g h h5' h6 h7
      · rw [I.fo0 (i + 1) (by omega)] at h7; cases h7
    · rw [I.fo0 (i + 1) (by omega)] at h7; cases h7
  · rcases cs h with ⟨_, h⟩ | ⟨_, rfl⟩
    · refine (I.i3 i g n h h5).mono (fun _ h => h) fun k n hk => ?_
      unfold ledP at hk ⊢
      by_cases z : k ≤ s.many
      · rw [hp k z]; exact hk
      · rw [w.pz k (by omega)] at hk; cases hk
    · exact h3 n h5.1 h5.2
  · rcases cs h with ⟨_, h⟩ | ⟨_, rfl⟩
    · obtain ⟨m, h5, h6⟩ := I.i4 i g h
      refine ⟨m, h5, ?_⟩
      unfold ledP at h6 ⊢
      rw [old h h5]
      exact h6
    · obtain ⟨m, a, b, c⟩ := h4
      exact ⟨m, ⟨a, b⟩, c⟩
/-- the last ring hung onto the one ahead -/
theorem RgI.link (I : RgI s rs fo) {q : Nat} {g h : Rg} (hq : rs.length = q + 2) (hg : rs[q]? = some g) (hh : rs[q + 1]? = some h) (hf : fo (q + 1) = false) (hp : s'.parts = fset s.parts g.fst (s.parts g.fst ++ [(kRing, Vl.th h.fst)])) (hm : s'.many = s.many) :
    RgI s' rs (fun i => decide (i = q + 1) || fo i) := by
  have gp := I.pos q g hg
  have sub : ∀ n kv, kv ∈ s.parts n → kv ∈ s'.parts n := fun n kv hk => by
    rw [hp]
    by_cases z : n = g.fst
    · rw [z, fset_same]; exact List.mem_append_left _ (by rw [← z]; exact hk)
    · rw [fset_ne z]; exact hk
  have led : ∀ k n, Vl.th n ∈ ledP s k → Vl.th n ∈ ledP s' k := fun k n hk => by
    obtain ⟨kv, h1, h2⟩ := List.mem_map.mp hk
    exact List.mem_map.mpr ⟨kv, sub k kv h1, h2⟩
  refine ⟨I.pos, fun n a b => I.cov n a (by omega), fun i g h => by rw [hm]; exact I.rng i g h, I.ord, fun i g2 n h1 h2 kv hk => ?_, fun i g2 h2 a b c => ?_, fun i g2 n h1 h2 => (I.i3 i g2 n h1 h2).mono (fun _ h => h) led, fun i g2 h1 => ?_, fun i hi => ?_⟩
  · have old : kv ∈ s.parts n → _ := fun hk => I.i1 i g2 n h1 h2 kv hk
    have fin : kv ∈ s.parts n → ∃ j, kv.2 = .th j ∧ ((kv.1 ≠ kRing ∧ g2.has j) ∨ (n = g2.fst ∧ kv.1 = kRing ∧ (decide (i + 1 = q + 1) || fo (i + 1)) = true ∧ ∃ h : Rg, rs[i + 1]? = some h ∧ j = h.fst)) := fun hk => by
      obtain ⟨j, e, h6⟩ := old hk
      refine ⟨j, e, ?_⟩
      rcases h6 with h6 | ⟨a, b, c, d⟩
      · exact .inl h6
      · exact .inr ⟨a, b, by rw [c, Bool.or_true], d⟩
    rw [hp] at hk
    by_cases z : n = g.fst
    · rw [z, fset_same] at hk
      rcases List.mem_append.mp hk with hk | hk
      · exact fin (by rw [z]; exact hk)
      · rw [List.mem_singleton.mp hk]
        obtain ⟨e1, e2⟩ := I.uniq h1 hg (by rw [← z]; exact h2) (Rg.one gp)
        subst e1 e2
        exact ⟨h.fst, rfl, .inr ⟨z, rfl, by simp, h, hh, rfl⟩⟩
    · rw [fset_ne z] at hk; exact fin hk
  · by_cases z : i = q
    · subst z
      rw [hg] at a
      rw [hh] at b
      cases a
      cases b
      rw [hp, fset_same]
      exact List.mem_append_right _ (List.mem_singleton.mpr rfl)
    · refine sub _ _ (I.i2 i g2 h2 a b ?_)
      have c : (decide (i + 1 = q + 1) || fo (i + 1)) = true := c
      rw [decide_eq_false (by omega), Bool.false_or] at c
      exact c
  · obtain ⟨m, h3, h4⟩ := I.i4 i g2 h1
    exact ⟨m, h3, led m _ h4⟩
  · show (decide (i = q + 1) || fo i) = false
    rw [I.fo0 i hi, decide_eq_false (by omega)]
    rfl
/-- no key ring yet -/
theorem RgI.noRing (I : RgI s rs fo) {q : Nat} {g : Rg} (hg : rs[q]? = some g) (hf : fo (q + 1) = false) : gval (s.parts g.fst) kRing = none := by
  unfold gval
  rw [Option.map_eq_none_iff, List.find?_eq_none]
  intro x hx
  rw [decide_eq_true_iff]
  intro e
  obtain ⟨j, _, h⟩ := I.i1 q g _ hg (Rg.one (I.pos q g hg)) x hx
  rcases h with ⟨h, _⟩ | ⟨_, _, h, _⟩
  · exact h e
  · rw [hf] at h; cases h
theorem psum_one {p : Nat → List (Key × Vl)} {x n : Nat} : ∀ {l : List Nat}, l.Nodup → (∀ i ∈ l, i ≠ x → pcnt (p i) n = 0) → psum p l n = if x ∈ l then pcnt (p x) n else 0
  | [], _, _ => by simp; rfl
  | j :: l, nd, h => by
    rw [List.nodup_cons] at nd
    rw [psum_cons, psum_one nd.2 fun i hi => h i (List.mem_cons_of_mem _ hi)]
    by_cases z : j = x
    · subst z
      rw [if_neg nd.1, if_pos (List.mem_cons_self ..)]
      omega
    · rw [h j (List.mem_cons_self ..) z]
      by_cases y : x ∈ l
      · rw [if_pos y, if_pos (List.mem_cons_of_mem _ y)]; omega
      · rw [if_neg y, if_neg (fun q => (List.mem_cons.mp q).elim (fun e => z e.symm) y)]
theorem psum_split {p : Nat → List (Key × Vl)} {f : Nat → Bool} {n : Nat} : ∀ l : List Nat, psum p l n = psum p (l.filter f) n + psum p (l.filter fun i => !f i) n
  | [] => rfl
  | j :: l => by
    rw [psum_cons, psum_split (f := f) l, List.filter_cons, List.filter_cons]
    cases f j with
    | true => simp [psum_cons]; omega
    | false => simp [psum_cons]; omega
theorem psum_same {p p' : Nat → List (Key × Vl)} {n : Nat} : ∀ {l : List Nat}, (∀ i ∈ l, p i = p' i) → psum p l n = psum p' l n
  | [], _ => rfl
  | j :: l, h => by rw [psum_cons, psum_cons, h j (List.mem_cons_self ..), psum_same fun i hi => h i (List.mem_cons_of_mem _ hi)]
theorem pcnt_zero {l : List (Key × Vl)} {n : Nat} (h : ∀ kv ∈ l, kv.2 ≠ .th n) : pcnt l n = 0 := by
  unfold pcnt
  rw [List.countP_eq_zero]
  intro kv hk
  cases e : kv.2 with
  | no d => simp [Vl.is]
  | th j => simp only [Vl.is, decide_eq_true_eq]; rintro rfl; exact h kv hk e
theorem pcnt_once {l : List (Key × Vl)} {n : Nat} {k : Key} (nd : (l.map (·.1)).Nodup) (h : (k, Vl.th n) ∈ l) (ho : ∀ kv ∈ l, kv.2 = .th n → kv.1 = k) : pcnt l n = 1 := by
  induction l with
  | nil => cases h
  | cons a l ih =>
    rw [List.map_cons, List.nodup_cons] at nd
    rw [pcnt_cons]
    rcases List.mem_cons.mp h with h | h
    · subst h
      rw [one_th, if_pos rfl, pcnt_zero fun kv hk e => nd.1 (by rw [← ho kv (List.mem_cons_of_mem _ hk) e]; exact List.mem_map.mpr ⟨kv, hk, rfl⟩)]
    · rw [ih nd.2 h fun kv hk e => ho kv (List.mem_cons_of_mem _ hk) e]
      have : one a.2 n = 0 := by
        unfold one
        rw [if_neg]
        intro z
        cases e : a.2 with
        | no d => rw [e] at z; cases z
        | th j =>
          rw [e] at z
          have z : j = n := of_decide_eq_true z
          subst z
          exact nd.1 (by rw [ho a (List.mem_cons_self ..) e]; exact List.mem_map.mpr ⟨_, h, rfl⟩)
      rw [this]
/-- holds before and behind -/
theorem RgI.counts (I : RgI s rs fo) (W : Wf s) (G : Good s) (G' : Good s') (hr : s.rest = []) (hr' : s'.rest = []) (ho : ∀ i, s'.outer.count i = s.outer.count i) {f : Nat → Bool} (ht : ∀ n, n ∈ s'.there ↔ n ∈ s.there ∧ f n = true) (nd' : s'.there.Nodup) (hp : ∀ n ∈ s'.there, s'.parts n = s.parts n)
    (hall : ∀ n, 1 ≤ n → n ≤ s.many → n ∈ s.there) (hf : ∀ (i : Nat) (g : Rg) (n : Nat), rs[i]? = some g → g.has n → (f n = true ↔ st kp fo i = true)) {q : Nat} {g : Rg} {n : Nat} (hq : rs[q]? = some g) (hn : g.has n) (hs : st kp fo q = true) :
    s.cnt n = s'.cnt n + (if n = g.fst ∧ 1 ≤ q ∧ fo q = true ∧ st kp fo (q - 1) = false then 1 else 0) := by
  have h1 := G.eq n
  have h2 := G'.eq n
  unfold cntF at h1 h2
  rw [hr] at h1
  rw [hr', ho] at h2
  have e1 : psum s'.parts s'.there n = psum s.parts (s.there.filter f) n := by
    rw [psum_same (p' := s.parts) fun i hi => hp i hi]
    have pm : s'.there.Perm (s.there.filter f) := by
      refine (List.perm_ext_iff_of_nodup nd' (W.nd.sublist List.filter_sublist)).mpr fun i => ?_
      rw [ht, List.mem_filter]
    unfold psum
    exact (pm.map _).sum_nat
  have e2 := psum_split (p := s.parts) (f := f) (n := n) s.there
  have e3 : psum s.parts (s.there.filter fun i => !f i) n = if n = g.fst ∧ 1 ≤ q ∧ fo q = true ∧ st kp fo (q - 1) = false then 1 else 0 := by
    have ndl : (s.there.filter fun i => !f i).Nodup := W.nd.sublist List.filter_sublist
    have inl : ∀ i, i ∈ (s.there.filter fun i => !f i) → ∃ (r : Nat) (gr : Rg), rs[r]? = some gr ∧ gr.has i ∧ st kp fo r = false := fun i hi => by
      obtain ⟨a, b⟩ := List.mem_filter.mp hi
      obtain ⟨c, d⟩ := W.tin i a
      obtain ⟨r, gr, x, y⟩ := I.cov i c d
      refine ⟨r, gr, x, y, ?_⟩
      cases hz : st kp fo r with
      | false => rfl
      | true => rw [(hf r gr i x y).mpr hz] at b; cases b
    have no : ∀ i, i ∈ (s.there.filter fun i => !f i) → ∀ kv ∈ s.parts i, kv.2 = .th n → kv.1 = kRing ∧ n = g.fst ∧ ∃ (r : Nat) (gr : Rg), q = r + 1 ∧ rs[r]? = some gr ∧ i = gr.fst ∧ fo q = true ∧ st kp fo r = false := fun i hi kv hk e => by
      obtain ⟨r, gr, x, y, z⟩ := inl i hi
      obtain ⟨j, ej, h6⟩ := I.i1 r gr i x y kv hk
      rw [e] at ej
      cases ej
      rcases h6 with ⟨_, h6⟩ | ⟨a, b, c, g2, d, rfl⟩
      · obtain ⟨e1, e2⟩ := I.uniq x hq h6 hn
        subst e1
        rw [z] at hs; cases hs
      · obtain ⟨e1, e2⟩ := I.uniq d hq (Rg.one (I.pos _ _ d)) hn
        subst e2
        exact ⟨b, rfl, r, gr, e1.symm, x, a, by rw [← e1]; exact c, z⟩
    by_cases hc : n = g.fst ∧ 1 ≤ q ∧ fo q = true ∧ st kp fo (q - 1) = false
    · rw [if_pos hc]
      obtain ⟨c1, c2, c3, c4⟩ := hc
      obtain ⟨r, rfl⟩ : ∃ r, q = r + 1 := ⟨q - 1, by omega⟩
      rw [Nat.add_sub_cancel] at c4
      have hrl : r < rs.length := by have := (List.getElem?_eq_some_iff.mp hq).1; omega
      have hgr := List.getElem?_eq_getElem hrl
      generalize rs[r] = gr at hgr
      have h1g := Rg.one (I.pos r gr hgr)
      have hxl : gr.fst ∈ (s.there.filter fun i => !f i) := by
        refine List.mem_filter.mpr ⟨hall _ (Nat.succ_le_succ (Nat.zero_le _)) (by have := I.rng r gr hgr; have := h1g.2; omega), ?_⟩
        have : ¬ f gr.fst = true := fun z => by rw [(hf r gr _ hgr h1g).mp z] at c4; cases c4
        simpa using this
      rw [psum_one (x := gr.fst) ndl fun i hi hne => pcnt_zero fun kv hk e => by
        obtain ⟨_, _, r2, gr2, y1, y2, y3, _⟩ := no i hi kv hk e
        have : r2 = r := by omega
        subst this
        rw [hgr] at y2
        cases y2
        exact hne y3, if_pos hxl]
      refine pcnt_once (k := kRing) (W.key _) ?_ fun kv hk e => (no _ hxl kv hk e).1
      rw [c1]
      exact I.i2 r gr g hgr hq c3
    · rw [if_neg hc]
      rw [psum_one (x := 0) ndl fun i hi _ => pcnt_zero fun kv hk e => by
        obtain ⟨_, y0, r2, gr2, y1, y2, y3, y4, y5⟩ := no i hi kv hk e
        exact hc ⟨y0, by omega, y4, by rw [y1, Nat.add_sub_cancel]; exact y5⟩]
      split
      · rename_i h0
        have := W.tin 0 (List.mem_filter.mp h0).1
        omega
      · rfl
  rw [e3] at e2
  have z0 : psum s.parts [] n = 0 := rfl
  have z1 : psum s'.parts [] n = 0 := rfl
  rw [z0] at h1
  rw [z1] at h2
  split at e2 <;> rename_i hc
  · rw [if_pos hc]; omega
  · rw [if_neg hc]; omega
end
/-- a sweep where no plans are: what is not reached is gone, all else stays -/
structure Wh (rs : List Vl) (s s' : Hs) (lost : List Nat) : Prop where
  srt : lost.Pairwise (· < ·)
  mem : ∀ n, n ∈ lost ↔ n ∈ s.there ∧ ¬ Rch (ledP s) rs n
  there : ∀ n, n ∈ s'.there ↔ n ∈ s.there ∧ Rch (ledP s) rs n
  parts : ∀ n ∈ s'.there, s'.parts n = s.parts n
  left : s'.left = s.left ++ lost
  asked : s'.asked = s.asked ++ lost
  ends : s'.ends = s.ends
  clean : Clean rs s'
theorem all_asked {mp d : Nat} {s s' : Hs} {l : List Nat} (t : AskAll (askD (fun _ => []) mp d) s l s') (nd : l.Nodup) (h : ∀ n ∈ l, n ∉ s.asked) (hd : 0 < d) : s' = { s with asked := s.asked ++ l } := by
  induction t with
  | nil => rw [List.append_nil]
  | cons h1 h2 h3 ih =>
    rename_i s s1 s2 n l
    rw [List.nodup_cons] at nd
    have q1 : s1 = { s with asked := s.asked ++ [n] } := by
      cases d with
      | zero => omega
      | succ d =>
        obtain ⟨⟨gd, _⟩, h4⟩ := h2
        rcases h4 with ⟨h4, rfl⟩ | ⟨hn, s3, hp, rfl⟩
        · exact absurd h4 (h n (List.mem_cons_self ..))
        · cases hp
          rfl
    have := ih nd.2 fun i hi z => by
      rw [q1] at z
      rcases List.mem_append.mp z with z | z
      · exact h i (List.mem_cons_of_mem _ hi) z
      · rw [List.mem_singleton.mp z] at hi; exact nd.1 hi
    rw [this, q1]
    show ({ s with asked := (s.asked ++ [n]) ++ l } : Hs) = _
    rw [List.append_assoc]
    rfl
theorem Mid.whole {mp : Nat} {s s' : Hs} {rs : List Vl} {lost lost0 : List Nat} {s1 d g e : Hs} {f : Nat} (m : Mid (askD (fun _ => []) mp 13) rs s lost s' lost0 s1 d g e f) (sl : Slk s) (hrs : ∀ n, Vl.th n ∈ rs → n ∈ s.there ∧ s.ends.count n < s.outer.count n) (ha : ∀ n ∈ s.there, n ∉ s.asked) : Wh rs s s' lost := by
  have K := askD_e (fun _ => []) mp 13
  obtain ⟨a1, a2, a3, a4, a5⟩ := m.asked K
  obtain ⟨u1, u2, u3, u4, u5, u6, u7, u8, u9, u10⟩ := ups_rest lost0 s
  have e1 := all_asked m.A m.nd0 (fun n hn => by rw [(ups_more lost0 s).2.2.1]; exact ha n (m.in0 n hn)) (by decide)
  subst e1
  obtain ⟨d1, d2, d3, d4, d5, d6, d7, d8, d9⟩ := downs_rest lost0 ({ s.ups lost0 with asked := (s.ups lost0).asked ++ lost0 } : Hs)
  obtain ⟨x1, x2, x3, x4⟩ := downs_more lost0 ({ s.ups lost0 with asked := (s.ups lost0).asked ++ lost0 } : Hs)
  rw [← m.ed] at d1 d2 x2
  have dt : d.there = s.there := d1.trans u1
  have dp : d.parts = s.parts := d2.trans u2
  have dl : ledP d = ledP s := by unfold ledP; rw [dp]
  have hth : ∀ n, Vl.th n ∈ rs → n ∈ s.there := fun n hn => (hrs n hn).1
  have nl : ∀ n, Rch (ledP s) rs n → n ∉ lost0 := fun n hr z => ((m.L0.mem n).mp z).2 hr
  have el : ∀ n, n ∈ lost ↔ n ∈ lost0 := fun n => by
    refine ⟨m.sub n, fun hn => (m.L1.mem n).mpr ⟨hn, fun hr => ((m.L0.mem n).mp hn).2 ?_⟩⟩
    rw [dl] at hr
    have key : ∀ i, Rch (ledP s) (rs ++ (others d lost0).map Vl.th) i → Rch (ledP s) rs i := fun i hi => by
      induction hi with
      | root h =>
        rcases List.mem_append.mp h with h | h
        · exact .root h
        · obtain ⟨n', h1, h2⟩ := List.mem_map.mp h
          cases h2
          obtain ⟨p1, p2⟩ := List.mem_filter.mp h1
          rw [dt] at p1
          exact Classical.not_not.mp fun q => of_decide_eq_true p2 ((m.L0.mem _).mpr ⟨p1, q⟩)
      | step _ h ih => exact .step ih h
    exact key n hr
  have ell : lost = lost0 := lost_uniq (s := s) (base := (· ∈ s.there)) (rs := rs) ⟨m.L1.srt, fun n => (el n).trans (m.L0.mem n)⟩ m.L0
  have ep : ∀ n, Rch (ledP s) rs n → e.parts n = s.parts n := fun n hr => by
    rw [m.Em.same n fun z => nl n hr ((el n).mp z), m.Gn.parts]
    show d.parts n = _
    rw [dp]
  have et : ∀ n, n ∈ e.there ↔ n ∈ s.there ∧ n ∉ lost0 := fun n => by
    rw [m.Em.there, m.Gn.there n]
    show n ∈ d.there ∧ _ ↔ _
    rw [dt, el]
  have er : ∀ n, n ∈ e.there → Rch (ledP s) rs n := fun n hn => by
    obtain ⟨p1, p2⟩ := (et n).mp hn
    exact Classical.not_not.mp fun q => p2 ((m.L0.mem n).mpr ⟨p1, q⟩)
  have ere : ∀ n, Rch (ledP s) rs n → Rch (ledP e) rs n := fun n hr => by
    induction hr with
    | root h => exact .root h
    | step h1 h2 ih =>
      refine .step ih ?_
      unfold ledP at h2 ⊢
      rw [ep _ h1]
      exact h2
  have z0 : RowZ g := fun l hl n hn => by
    rw [m.Gn.row] at hl
    cases hl
    cases hn
  have ez := m.Em.z z0
  obtain ⟨r, hr, _⟩ := m.row K
  have r0 : r = [] := by
    refine List.eq_nil_iff_forall_not_mem.mpr fun n hn => ?_
    obtain ⟨h3, h4⟩ := ez r hr n hn
    have hth2 : ∀ n, Vl.th n ∈ rs → n ∈ e.there := fun n hn => (et n).mpr ⟨hth n hn, nl n (.root hn)⟩
    rcases rch_cnt m.Em.G m.Ce hth2 (ere n (er n h3)) with h5 | h5
    · obtain ⟨p1, p2⟩ := hrs n h5
      have h6 := (m.bal K sl n).1
      exact cnt_out m.Em.G (i := n) (by omega) h4
    · exact h5 h4
  subst r0
  have gl : g.left = s.left ++ lost := by
    rw [m.eg, (gones_more lost _).2.1]
    show d.left ++ lost = _
    rw [x2]
    show (s.ups lost0).left ++ lost = _
    rw [(ups_more lost0 s).2.1]
  have elf : e.left = s.left ++ lost := by rw [m.ee, (empts_more lost g).2.1, gl]
  have eas : e.asked = s.asked ++ lost := by
    rw [a1, ell]
    show (s.ups lost0).asked ++ lost0 = _
    rw [(ups_more lost0 s).2.2.1]
  have een : e.ends = s.ends := by
    rw [m.ee, empts_ends, m.eg, (gones_left lost _).2.1]
    show d.ends = _
    rw [m.ed, downs_ends]
    exact ups_ends lost0 s
  have wk := m.wk
  cases wk with
  | step q1 _ _ => rw [hr] at q1; cases q1
  | done _ =>
    refine ⟨m.L1.srt, fun n => (el n).trans (m.L0.mem n), fun n => ?_, fun n hn => ep n (er n hn), elf, eas, een, fun n hn => ere n (er n hn)⟩
    show n ∈ e.there ↔ _
    rw [et]
    exact ⟨fun ⟨a, b⟩ => ⟨a, Classical.not_not.mp fun q => b ((m.L0.mem n).mpr ⟨a, q⟩)⟩, fun ⟨a, b⟩ => ⟨a, nl n b⟩⟩
end HM

set_option Elab.async false
set_option linter.all false
set_option maxRecDepth 100000
namespace HM
open PySem L2 DL
/-- a hall at rest in which none was let go -/
structure Rs (k : Nat) (s : Hs) : Prop where
  W : Wf s
  G : Good s
  cl : Cl s
  row : s.row = none
  lasts : s.lasts = 0
  rest : s.rest = []
  left : s.left = []
  asked : s.asked = []
  ends : s.ends = []
  mine : s.mine = []
  base : s.base = 0
  kk : Kk s
  my : s.many ≤ k
  ol : s.outer.length ≤ k
  all : ∀ n, 1 ≤ n → n ≤ s.many → n ∈ s.there
section
variable {k : Nat} {s : Hs} {n : Nat}
theorem pn0 (mp : Nat) : Pn (fun _ => []) mp := ⟨fun _ _ => rfl, fun _ _ h => (by cases h)⟩
theorem dn0 {mp : Nat} {a : List Nat} : dn (fun _ => []) mp a = 0 := by
  have := dn_le (pl := fun _ => []) (mp := mp) (c := 0) (a := a) (fun _ => Nat.le_refl _)
  omega
theorem Rs.jx (r : Rs k s) : Jx (fun _ => []) 0 k s := ⟨r.W, r.G, r.row, fun i => by rw [r.mine, r.ends]; exact Nat.zero_le _, r.kk, r.base, by rw [dn0]; have := r.ol; omega, by unfold nbP; rw [dn0]; exact r.my, by rw [r.mine]; exact Nat.zero_le _⟩
theorem Rs.mono (r : Rs k s) {k2 : Nat} (h : k ≤ k2) : Rs k2 s := ⟨r.W, r.G, r.cl, r.row, r.lasts, r.rest, r.left, r.asked, r.ends, r.mine, r.base, r.kk, Nat.le_trans r.my h, Nat.le_trans r.ol h, r.all⟩
theorem Rs.made (r : Rs k s) (h : s.many < k) (hk : k ≤ 4000) (f : D) : Rs k (s.made f .non) := by
  refine ⟨r.W.made (by omega) _ _, r.G.made r.W _ _, r.cl.made r.W _ .non, r.row, r.lasts, r.rest, r.left, r.asked, r.ends, r.mine, r.base, r.kk, h, r.ol, fun n h1 h2 => ?_⟩
  have h2 : n ≤ s.many + 1 := h2
  show n ∈ s.there ++ [s.many + 1]
  by_cases z : n = s.many + 1
  · rw [z]; simp
  · exact List.mem_append_left _ (r.all n h1 (by omega))
theorem Rs.put (r : Rs k s) {j : Nat} {ky : Key} (h1 : 1 ≤ n) (h2 : n ≤ s.many) (h3 : 1 ≤ j) (h4 : j ≤ s.many) (hk : ky ∈ _root_.K.K6) (hv : gval (s.parts n) ky = none) : Rs k (s.putP n ky (.th j)) := by
  have hn := r.all n h1 h2
  have hl := _root_.K.keys_len (r.W.key n) (r.kk n)
  have e0 : oldP s n ky = .no .non := by unfold oldP; rw [hv]; rfl
  have g := r.G.putP r.W hn ky (.th j)
  rw [e0] at g
  exact ⟨r.W.putP (k := ky) h2 ⟨h3, h4⟩ (_root_.K.k6_any hk) (by omega), g, r.cl.putP hn ky fun i e => by cases e; exact r.all j h3 h4, r.row, r.lasts, r.rest, r.left, r.asked, r.ends, r.mine, r.base, kk_put r.kk hk, r.my, r.ol, r.all⟩
theorem Rs.put_l (r : Rs k s) {j : Nat} {ky : Key} (hv : gval (s.parts n) ky = none) (ask : AskR) : Loose ask (s.putP n ky (.th j)) (oldP s n ky) (s.putP n ky (.th j)) := by
  have e0 : oldP s n ky = .no .non := by unfold oldP; rw [hv]; rfl
  rw [e0]
  exact .no
theorem Rs.len (r : Rs k s) (n : Nat) : (s.parts n).length < 90000 := by have := _root_.K.keys_len (r.W.key n) (r.kk n); omega
theorem Rs.up (r : Rs k s) (h2 : n ≤ s.many) (h : s.outer.length < k) : Rs k (s.up n) := ⟨r.W.up n, r.G.up h2, r.cl.congr rfl rfl (fun _ h => h) rfl rfl, r.row, r.lasts, r.rest, r.left, r.asked, r.ends, r.mine, r.base, r.kk, r.my, by show (s.outer ++ [n]).length ≤ k; rw [List.length_append, List.length_singleton]; omega, r.all⟩
theorem Rs.down (r : Rs k s) (h : n ∈ s.outer) : Rs k (s.down n) := ⟨r.W.down n, r.G.down h, r.cl.congr rfl rfl (fun _ h => h) rfl rfl, r.row, r.lasts, r.rest, r.left, r.asked, r.ends, r.mine, r.base, r.kk, r.my, Nat.le_trans (List.length_erase_le ..) r.ol, r.all⟩
end
end HM
namespace K
open PySem L2 Evl EX DL HM
/-- a hall, a well, and things of one's own beside them -/
structure Q9 (CT CH CE dxe : Addr) (H : HA) (s : Hs) (w : Addr) (own : List (Addr × O)) (S : Sto) : Prop where
  h : HRep CT CH ((⟨dxe, [], fun _ => [], 0⟩ : Ix).en CE) H s S
  wl : Well S w
  hw : ∀ l, hC CT CH ((⟨dxe, [], fun _ => [], 0⟩ : Ix).en CE) H s l ≠ none → w ≠ H.a l
  nd : (own.map (·.1)).Nodup
  at_ : ∀ p ∈ own, S p.1 = some p.2
  nw : ∀ p ∈ own, p.1 ≠ w
  nh : ∀ p ∈ own, ∀ l, hC CT CH ((⟨dxe, [], fun _ => [], 0⟩ : Ix).en CE) H s l ≠ none → p.1 ≠ H.a l
theorem Well.ne {S : Sto} {w : Addr} (h : Well S w) : S w ≠ none := by obtain ⟨_, _, _, _, _, g, _⟩ := h; rw [g]; exact nofun
theorem Well.eq {S S' : Sto} {w : Addr} (h : Well S w) (e : S' w = S w) : Well S' w := by
  obtain ⟨a, b, c, d, cs, g, r⟩ := h
  exact ⟨a, b, c, d, cs, by rw [e]; exact g, r⟩
section
variable {CT CH CE dxe : Addr} {H H' : HA} {s s' : Hs} {w p : Addr} {own own' : List (Addr × O)} {S S' : Sto} {o o' : O}
theorem Q9.well (q : Q9 CT CH CE dxe H s w own S) (hw : Well S' w) (f : ∀ y, y ≠ w → S' y = S y) : Q9 CT CH CE dxe H s w own S' :=
  ⟨⟨fun {l o} h => by rw [f _ (Ne.symm (q.hw l (nn h)))]; exact q.h.at_ h, q.h.inj⟩, hw, q.hw, q.nd, fun p hp => by rw [f _ (q.nw p hp)]; exact q.at_ p hp, q.nw, q.nh⟩
theorem Q9.step (q : Q9 CT CH CE dxe H s w own S) (T : HTr CT CH ((⟨dxe, [], fun _ => [], 0⟩ : Ix).en CE) H s S H' s' S') : Q9 CT CH CE dxe H' s' w own S' := by
  have ne : ∀ b, S b ≠ none → (∀ l, hC CT CH ((⟨dxe, [], fun _ => [], 0⟩ : Ix).en CE) H s l ≠ none → b ≠ H.a l) → ∀ l, hC CT CH ((⟨dxe, [], fun _ => [], 0⟩ : Ix).en CE) H' s' l ≠ none → b ≠ H'.a l := fun b hb hn l hl z => by
    rcases T.tr.ext l hl with ⟨h1, h2⟩ | h1
    · exact hn l h1 (z.trans h2)
    · rw [← z] at h1; exact hb h1
  exact ⟨T.rep, q.wl.eq (T.tr.fr w q.wl.ne q.hw), ne w q.wl.ne q.hw, q.nd, fun p hp => T.tr.other (q.at_ p hp) (q.nh p hp), q.nw, fun p hp => ne p.1 (nn (q.at_ p hp)) (q.nh p hp)⟩
theorem Q9.new (q : Q9 CT CH CE dxe H s w own S) (hp : S p = none) (o : O) : Q9 CT CH CE dxe H s w ((p, o) :: own) (put S p o) := by
  have ne : ∀ {a : Addr}, S a ≠ none → a ≠ p := fun h z => h (by rw [z]; exact hp)
  refine ⟨⟨fun {l o} h => by rw [put_ne (ne (nn (q.h.at_ h)))]; exact q.h.at_ h, q.h.inj⟩, q.wl.eq (put_ne (ne q.wl.ne)), q.hw, ?_, fun x hx => ?_, fun x hx => ?_, fun x hx l hl => ?_⟩
  · rw [List.map_cons, List.nodup_cons]
    refine ⟨fun z => ?_, q.nd⟩
    obtain ⟨x, h1, h2⟩ := List.mem_map.mp z
    exact ne (nn (q.at_ x h1)) h2
  · rcases List.mem_cons.mp hx with rfl | hx
    · exact put_same
    · rw [put_ne (ne (nn (q.at_ x hx)))]; exact q.at_ x hx
  · rcases List.mem_cons.mp hx with rfl | hx
    · exact Ne.symm (ne q.wl.ne)
    · exact q.nw x hx
  · rcases List.mem_cons.mp hx with rfl | hx
    · exact fun z => q.h.live hl (by rw [← z]; exact hp)
    · exact q.nh x hx l hl
theorem Q9.sub (q : Q9 CT CH CE dxe H s w own S) (nd : (own'.map (·.1)).Nodup) (h : ∀ x ∈ own', x ∈ own) : Q9 CT CH CE dxe H s w own' S := ⟨q.h, q.wl, q.hw, nd, fun x hx => q.at_ x (h x hx), fun x hx => q.nw x (h x hx), fun x hx => q.nh x (h x hx)⟩
theorem Q9.drop (q : Q9 CT CH CE dxe H s w ((p, o) :: own) S) : Q9 CT CH CE dxe H s w own S := q.sub (by have := q.nd; rw [List.map_cons, List.nodup_cons] at this; exact this.2) fun x hx => List.mem_cons_of_mem _ hx
theorem Q9.fresh (q : Q9 CT CH CE dxe H s w own S) (hp : S p = none) (o : O) : Q9 CT CH CE dxe H s w own (put S p o) := (q.new hp o).drop
/-- a thing of one's own changes -/
theorem Q9.set (q : Q9 CT CH CE dxe H s w ((p, o) :: own) S) (o' : O) : Q9 CT CH CE dxe H s w ((p, o') :: own) (put S p o') := by
  have nd := q.nd
  rw [List.map_cons, List.nodup_cons] at nd
  have hw : p ≠ w := q.nw (p, o) (List.mem_cons_self ..)
  have hh : ∀ l, hC CT CH ((⟨dxe, [], fun _ => [], 0⟩ : Ix).en CE) H s l ≠ none → p ≠ H.a l := q.nh (p, o) (List.mem_cons_self ..)
  refine ⟨⟨fun {l o} h => by rw [put_ne (Ne.symm (hh l (nn h)))]; exact q.h.at_ h, q.h.inj⟩, q.wl.eq (put_ne (Ne.symm hw)), q.hw, by rw [List.map_cons, List.nodup_cons]; exact nd, fun x hx => ?_, fun x hx => ?_, fun x hx l hl => ?_⟩
  · rcases List.mem_cons.mp hx with rfl | hx
    · exact put_same
    · rw [put_ne fun z => nd.1 (List.mem_map.mpr ⟨x, hx, z⟩)]; exact q.at_ x (List.mem_cons_of_mem _ hx)
  · rcases List.mem_cons.mp hx with rfl | hx
    · exact hw
    · exact q.nw x (List.mem_cons_of_mem _ hx)
  · rcases List.mem_cons.mp hx with rfl | hx
    · exact hh l hl
    · exact q.nh x (List.mem_cons_of_mem _ hx) l hl
/-- a thing of one's own is told for good -/
theorem Q9.del (q : Q9 CT CH CE dxe H s w ((p, o) :: own) S) : Q9 CT CH CE dxe H s w own (DL.del S p) := by
  have nd := q.nd
  rw [List.map_cons, List.nodup_cons] at nd
  have hw : p ≠ w := q.nw (p, o) (List.mem_cons_self ..)
  have hh : ∀ l, hC CT CH ((⟨dxe, [], fun _ => [], 0⟩ : Ix).en CE) H s l ≠ none → p ≠ H.a l := q.nh (p, o) (List.mem_cons_self ..)
  refine ⟨⟨fun {l o} h => by rw [DL.del_ne (Ne.symm (hh l (nn h)))]; exact q.h.at_ h, q.h.inj⟩, q.wl.eq (DL.del_ne (Ne.symm hw)), q.hw, nd.2, fun x hx => ?_, fun x hx => q.nw x (List.mem_cons_of_mem _ hx), fun x hx => q.nh x (List.mem_cons_of_mem _ hx)⟩
  rw [DL.del_ne fun z => nd.1 (List.mem_map.mpr ⟨x, hx, z⟩)]
  exact q.at_ x (List.mem_cons_of_mem _ hx)
theorem Q9.top (q : Q9 CT CH CE dxe H s w ((p, o) :: own) S) : S p = some o := q.at_ (p, o) (List.mem_cons_self ..)
theorem Q9.mem (q : Q9 CT CH CE dxe H s w own S) {p : Addr} {o : O} (h : (p, o) ∈ own) : S p = some o := q.at_ (p, o) h
/-- ghosts -/
theorem Q9.ghost (q : Q9 CT CH CE dxe H s w own S) (h : hC CT CH ((⟨dxe, [], fun _ => [], 0⟩ : Ix).en CE) H s' = hC CT CH ((⟨dxe, [], fun _ => [], 0⟩ : Ix).en CE) H s) (hm : s'.many = s.many) : Q9 CT CH CE dxe H s' w own S := q.step (HTr.ghost q.h h hm)
theorem put_del (hp : S p = some o) : S = put (DL.del S p) p o := by
  funext b
  by_cases z : b = p
  · rw [z, put_same, hp]
  · rw [put_ne z, DL.del_ne z]
end
end K
namespace HM
theorem Wf.ghost {s : Hs} (w : Wf s) {l : List Nat} : Wf { s with outer := l } := ⟨w.nd, w.tin, w.len, w.most, w.key, w.plen, w.pv, w.wnd, w.win, w.rnd, w.pz, w.az, w.kok, w.eb, w.an, w.bs⟩
end HM

set_option Elab.async false
set_option linter.all false
set_option maxRecDepth 100000
namespace HM
open PySem L2 DL
def kNext : Key := .inr "next"
/-- a ring built behind the first m0 things -/
structure RgB (m0 z l : Nat) (s s' : Hs) : Prop where
  many : s'.many = m0 + l
  zl : z ≤ l
  out : s'.outer = s.outer
  old : ∀ n, n ≤ m0 → s'.parts n = s.parts n
  c1 : ∀ n, m0 < n → n ≤ m0 + l → ∀ kv ∈ s'.parts n, ∃ j, kv.2 = .th j ∧ kv.1 ≠ kRing ∧ m0 < j ∧ j ≤ m0 + l
  c3 : ∀ n, m0 < n → n ≤ m0 + l → Rch (ledP s') [.th (m0 + 1)] n
  c4 : Vl.th (m0 + 1) ∈ ledP s' (m0 + z)
  c5 : ∀ n, m0 + z < n → s'.parts n = [] ∨ n < m0 + l
section
variable {m0 z l x : Nat} {s s' : Hs}
theorem ledP_single {s : Hs} {n j : Nat} {ky : Key} (h : s.parts n = [(ky, .th j)]) : Vl.th j ∈ ledP s n := by unfold ledP; rw [h]; exact List.mem_singleton.mpr rfl
theorem RgB.begin (hz : 1 ≤ z) (w : Wf s') (hm : s'.many = m0 + z) (ho : s'.outer = s.outer) (old : ∀ n, n ≤ m0 → s'.parts n = s.parts n) (hp : ∀ j, j < z → s'.parts (m0 + 1 + j) = [(kNext, .th (m0 + 1 + (j + 1) % z))]) : RgB m0 z z s s' := by
  have nk : kNext ≠ kRing := by
    intro e
    have : (Str.ofString "next") = (Str.ofString "ring") := Sum.inr.inj e
    exact absurd this (by decide +kernel)
  have at_ : ∀ n, m0 < n → n ≤ m0 + z → ∃ j, j < z ∧ n = m0 + 1 + j := fun n a b => ⟨n - (m0 + 1), by omega, by omega⟩
  refine ⟨hm, Nat.le_refl _, ho, old, fun n a b kv hk => ?_, fun n a b => ?_, ?_, fun n a => .inl (w.pz n (by omega))⟩
  · obtain ⟨j, hj, rfl⟩ := at_ n a b
    rw [hp j hj] at hk
    rw [List.mem_singleton.mp hk]
    have := Nat.mod_lt (j + 1) (show 0 < z by omega)
    exact ⟨_, rfl, nk, by omega, by omega⟩
  · obtain ⟨j, hj, rfl⟩ := at_ n a b
    clear a b
    induction j with
    | zero => exact .root (List.mem_singleton.mpr rfl)
    | succ j ih =>
      have := hp j (by omega)
      rw [Nat.mod_eq_of_lt hj] at this
      exact .step (ih (by omega)) (ledP_single this)
  · have := hp (z - 1) (by omega)
    rw [show (z - 1 + 1) % z = 0 by rw [show z - 1 + 1 = z by omega]; exact Nat.mod_self z, show m0 + 1 + (z - 1) = m0 + z by omega] at this
    exact ledP_single this
theorem RgB.hang (B : RgB m0 z l s s') (w : Wf s') (h1 : m0 < x) (h2 : x ≤ m0 + l) {ky : Key} (hky : ky ≠ kRing) (hv : gval (s'.parts x) ky = none) (f : D) : RgB m0 z (l + 1) s ((s'.made f .non).putP x ky (.th (s'.many + 1))) ∧ (∀ n, n ≠ x → ((s'.made f .non).putP x ky (.th (s'.many + 1))).parts n = s'.parts n) := by
  have hp : ((s'.made f .non).putP x ky (.th (s'.many + 1))).parts = fset s'.parts x (s'.parts x ++ [(ky, .th (s'.many + 1))]) := by
    show fset s'.parts x (gput (s'.parts x) ky (.th (s'.many + 1))) = _
    rw [gput_new hv]
  have hne : ∀ n, n ≠ x → ((s'.made f .non).putP x ky (.th (s'.many + 1))).parts n = s'.parts n := fun n hn => by rw [hp, fset_ne hn]
  have hsub : ∀ n kv, kv ∈ s'.parts n → kv ∈ ((s'.made f .non).putP x ky (.th (s'.many + 1))).parts n := fun n kv hk => by
    rw [hp]
    by_cases y : n = x
    · rw [y, fset_same]; exact List.mem_append_left _ (by rw [← y]; exact hk)
    · rw [fset_ne y]; exact hk
  have led : ∀ k n, Vl.th n ∈ ledP s' k → Vl.th n ∈ ledP ((s'.made f .non).putP x ky (.th (s'.many + 1))) k := fun k n hk => by
    obtain ⟨kv, a, b⟩ := List.mem_map.mp hk
    exact List.mem_map.mpr ⟨kv, hsub k kv a, b⟩
  have hm := B.many
  refine ⟨⟨by show s'.many + 1 = _; omega, Nat.le_succ_of_le B.zl, B.out, fun n hn => by rw [hne n (by omega)]; exact B.old n hn, fun n a b kv hk => ?_, fun n a b => ?_, led _ _ B.c4, fun n a => ?_⟩, hne⟩
  · have old : kv ∈ s'.parts n → ∃ j, kv.2 = .th j ∧ kv.1 ≠ kRing ∧ m0 < j ∧ j ≤ m0 + (l + 1) := fun hk => by
      by_cases y : n ≤ m0 + l
      · obtain ⟨j, p, q, r, t⟩ := B.c1 n a y kv hk
        exact ⟨j, p, q, r, by omega⟩
      · rw [w.pz n (by omega)] at hk; cases hk
    rw [hp] at hk
    by_cases y : n = x
    · rw [y, fset_same] at hk
      rcases List.mem_append.mp hk with hk | hk
      · exact old (by rw [y]; exact hk)
      · rw [List.mem_singleton.mp hk]
        exact ⟨_, rfl, hky, by omega, by omega⟩
    · rw [fset_ne y] at hk; exact old hk
  · by_cases y : n ≤ m0 + l
    · exact (B.c3 n a y).mono (fun _ h => h) led
    · have e : n = s'.many + 1 := by omega
      rw [e]
      refine .step ((B.c3 x h1 h2).mono (fun _ h => h) led) (List.mem_map.mpr ⟨(ky, .th (s'.many + 1)), ?_, rfl⟩)
      rw [hp, fset_same]
      exact List.mem_append_right _ (List.mem_singleton.mpr rfl)
  · by_cases y : n = x
    · exact .inr (by omega)
    · rw [hne n y]
      rcases B.c5 n a with h | h
      · exact .inl h
      · exact .inr (by omega)
end
end HM
namespace K
open PySem L2 Evl EX DL HM
abbrev s__law_ring : Stmt := top 16
abbrev N__law_ring : List Str := ["_law_well_here", "_law_hall", "_law_size", "_law_things", "_law_k", "_law_hung", "_law_last", "_law_j"]
theorem sc__law_ring : FnScope N__law_ring ["_law_well_here", "_law_hall", "_law_size"] (defScope s__law_ring) := ⟨rfl, rfl, rfl, by decide +kernel, rfl, by decide +kernel, by decide +kernel⟩
theorem ixLast9 {S : Sto} {k : DK} {a : Addr} {l : List D} {x : D} (h : S a = some (.lst (l ++ [x]))) (q : k x S) : ixq (.ref a) (-1) S k ⟨⟩ := ⟨l ++ [x], x, h, by unfold atI; rw [List.length_append, List.length_singleton, show ixN (l.length + 1) (-1) = some l.length by unfold ixN; simp; omega]; simp, q⟩
structure Hm (m : Nat) (H H' : HA) : Prop where
  hall : H'.a .hall = H.a .hall
  x0 : H'.a (.x 0) = H.a (.x 0)
  t : ∀ n, 1 ≤ n → n ≤ m → H'.a (.t n) = H.a (.t n)
theorem Hm.refl {m : Nat} {H : HA} : Hm m H H := ⟨rfl, rfl, fun _ _ _ => rfl⟩
theorem Hm.step {m : Nat} {H H' H2 : HA} {CT CH CE : Addr} {I : Ix} {s s2 : Hs} {S S2 : Sto} (h : Hm m H H') (T : HTr CT CH (I.en CE) H' s S H2 s2 S2) (hm : m ≤ s.many) : Hm m H H2 := ⟨T.hall.trans h.hall, (HTr.x0 T).trans h.x0, fun n a b => (T.t a (Nat.le_trans b hm)).trans (h.t n a b)⟩
theorem Hm.trans {m m2 : Nat} {H H' H2 : HA} (h : Hm m H H') (g : Hm m2 H' H2) (hm : m ≤ m2) : Hm m H H2 := ⟨g.hall.trans h.hall, g.x0.trans h.x0, fun n a b => (g.t n a (Nat.le_trans b hm)).trans (h.t n a b)⟩
section
variable {P : Program} {w : World} {K : PySem.W.Frag} {mg : Str → Option Value} {base : Heap} {CT CH CE : Addr}
local macro_rules | `(tactic| walk_at "dl") => `(tactic| try simp only [↓x_lcN, ↓x_lcSN, ↓x_catM, ↓x_catMN, ↓x_inO, ↓x_eqE, ↓x_eqF, ↓x_isE, ↓x_lenSetI, ↓x_neV, ↓x_sortSet, ↓x_sortDLN, ↓x_lrg, ↓x_neg, ↓x_lcS, ↓x_lockE, ↓x_eqA, ↓x_dictD, ↓x_disp, ↓x_pNil, ↓x_pCons, ↓x_forS, ↓x_diSL, ↓x_diKeys, ↓x_lock, ↓x_dictP, ↓x_fld, ↓x_fldS, ↓x_fldA, ↓x_meth, ↓x_make, ↓x_dget, ↓x_din, ↓x_dget1, ↓x_dget2, ↓x_dpop, ↓x_dput, ↓x_listD, ↓x_sortDI, ↓x_lenD, ↓x_isiC, x_icS, x_icI, x_icB, x_icN, x_ioS, x_ioI, x_ioB, x_ioN, ↓x_gSub, ↓x_sortDL, ↓x_eqO, ↓x_ninA, x_catN, x_isBB, x_isBN, x_isBI, x_isBS, x_isBR, ↓x_seq, ↓x_nx, ↓x_pass, ↓x_brk, ↓x_cnt, ↓x_drop, ↓x_ret, ↓x_retN, ↓x_ifS, ↓x_set, ↓x_asg, ↓x_gN, ↓x_gT, ↓x_gsC, ↓x_gsN, ↓x_var, x_rdv, ↓x_c, ↓x_op, ↓x_test, x_tst, ↓x_and, ↓x_or, ↓x_not, ↓x_andV, ↓x_orV, ↓x_notV, x_tstV, ↓x_ifE, x_true, x_false, ↓x_nil, ↓x_cons, ↓x_tup, ↓x_lst, ↓x_new, ↓x_newD, ↓x_call, ↓x_cb, x_oI, x_oIc, x_oS, x_addS, x_isN, x_notN, x_eqI, x_eqS, x_eqIS, x_eqSI, x_eqNS, x_neI, x_neS, x_neB, x_eqB, x_few, x_need, ↓x_ix, x_lenS, x_ixL0, x_ixT0, x_ixT1, x_ixT2, x_ixT3, x_ixT4, x_lenL, x_lenT, x_lenC, x_listL, x_listT, x_tupL, x_tupT, x_strI, x_strS, x_int1, x_intB, x_I1, x_I2, x_cat, x_catT, ↓x_split, ↓x_for, ↓x_cut, ↓x_lc, ↓x_whl, ↓x_diL, ↓x_diT, ↓x_diS, x_itL, x_itC, x_itT, x_itS, ↓x_diR1, ↓x_diR2, ↓x_diE, x_enmL, x_enmC, ↓x_gcN, ↓x_gcT, ↓x_yes, ↓x_ml, ↓x_ms, x_strq, x_ss, x_ssc, x_ssi, ↓x_join, ↓x_aug, x_st2I, ↓x_sl, ↓x_noP, ↓x_part, x_intq, x_slL, x_slC, x_slS, ↓x_in, x_inT, x_inL, x_ninT, x_ninL, x_inN, x_inSS, x_inSI, x_inIS, x_inII, ↓x_sg, x_sgS, x_nsgS, ↓x_eqD, ↓x_inDD, x_mulS, ↓x_isi, x_isiS, x_isiI, x_isiB, x_isiN, x_isiL, x_isiT, ↓x_isTT, x_itI, x_itStr, x_itN, x_itB, x_itLst, x_itTup, ↓x_any, ↓x_all, ↓x_sum, ↓x_srtI, ↓x_srtS, ↓x_intS, ↓x_lenRf, ↓x_tupRf, ↓x_frz', x_flS, x_flI, x_flN, x_flB, x_cs_bool, x_isB_NoneType_bool, x_isB_bool_bool, x_isB_int_bool, x_isB_str_bool, x_isB_list_bool, x_isB_tuple_bool, x_isB_dict_bool, x_cs_int, x_isB_NoneType_int, x_isB_bool_int, x_isB_int_int, x_isB_str_int, x_isB_list_int, x_isB_tuple_int, x_isB_dict_int, x_cs_str, x_isB_NoneType_str, x_isB_bool_str, x_isB_int_str, x_isB_str_str, x_isB_list_str, x_isB_tuple_str, x_isB_dict_str, x_cs_list, x_isB_NoneType_list, x_isB_bool_list, x_isB_int_list, x_isB_str_list, x_isB_list_list, x_isB_tuple_list, x_isB_dict_list, x_cs_tuple, x_isB_NoneType_tuple, x_isB_bool_tuple, x_isB_int_tuple, x_isB_str_tuple, x_isB_list_tuple, x_isB_tuple_tuple, x_isB_dict_tuple, x_cs_dict, x_isB_NoneType_dict, x_isB_bool_dict, x_isB_int_dict, x_isB_str_dict, x_isB_list_dict, x_isB_tuple_dict, x_isB_dict_dict, List.all_cons, List.all_nil, Bool.and_self, Bool.or_false, Bool.or_true, Bool.false_or, Bool.true_or, wipeD, setD, DL.isNon, List.set_cons_zero, List.set_cons_succ, List.getElem?_cons_zero, List.getElem?_cons_succ, List.length_cons, List.length_nil, Nat.zero_add, List.cons_append, List.nil_append, decide_true, decide_false, Bool.not_true, Bool.not_false, true_and, and_true, startD, List.map_cons, List.map_nil, Nat.reduceSub, Nat.reduceLeDiff, Nat.zero_le, Int.reduceLT, Int.reduceLE, and_self, Nat.reduceAdd, List.replicate])
def dRing (CT CH CE : Addr) : SpD := fun ds S q _ => ∃ (dxe : Addr) (k z : Nat) (H : HA) (s : Hs) (w : Addr) (own : List (Addr × O)), ds = [.ref w, .ref (H.a .hall), .int (z : Int)] ∧ Q9 CT CH CE dxe H s w own S ∧ Rs k s ∧ 1 ≤ z ∧ s.many + z + 27 ≤ k ∧ k ≤ 4000 ∧
  ∀ H' s' S' l, Q9 CT CH CE dxe H' s' w own S' → Rs k s' → RgB s.many z l s s' → l ≤ z + 27 → Hm s.many H H' → q (.list ((List.range l).map fun j => .ref (H'.a (.t (s.many + 1 + j))))) S'
theorem ok_ring {fa : Addr} {fd : FuncData} (F : Fun K "_law_ring" "_law_ring" s__law_ring fa fd) (T : TxE K mg CT CH CE) (G__law_dig : DefD P w K mg base 2 "_law_dig" ["_law_well_here", "_law_most"] dDig) (G_Hall_make : MDef P w K mg base 3 CH "make" ["self", "form", "own"] (lSp K (xSp CE fun I => dMake CT CH (I.en CE))))
 (G_Hall_put : MDef P w K mg base 112 CH "put" ["self", "thing", "key", "value"] (lSp K (xSp CE fun I => dPut CT CH (I.en CE) (askD I.pl I.mp 13)))) : FnOk P w K mg base CX0 113 fa fd ["_law_well_here", "_law_hall", "_law_size"] (lSp K (dRing CT CH CE)) := by
  refine dok F sc__law_ring (fun ds S q qx ⟨dxe, k, z, H, s, w, own, e, _⟩ => by rw [e]; rfl) ⟨_, fun cdv A outer s H E hr => dss_cons (ds_setLc (i := 3) (own := [("_law_k", 4)]) (gc_name (j := 4) (by decide)) rfl sc__law_ring.nd rfl rfl (sw_true rfl rfl rfl (by decide +kernel)) (di_range1 (by rfl) T.range (da_cons (de_var 2) da_nil)) (blkOk_by (N := N__law_ring) (sc := defScope s__law_ring) (by decide +kernel)) (fun _ _ _ _ _ => pg_name (i := 4) sc__law_ring.nd rfl (Or.inl rfl)) (fun _ _ _ _ _ => dts_nil) (fun _ _ _ _ _ => de_meth T.Hall_ G_Hall_make (hr.mono (by decide)) (de_var 1) (da_cons (de_str) (da_cons (de_non) da_nil))))
      (dss_cons (ds_for PassesOwn.never rfl (di_range1 (by rfl) T.range (da_cons (de_var 2) da_nil)) (dg_name (i := 4) sc__law_ring.nd rfl (Or.inl rfl))
        (dss_one (ds_expr (de_meth T.Hall_ G_Hall_put (hr.mono (by decide)) (de_var 1) (da_cons (de_ix ix_seq (si_ix rfl) (de_var 3) (de_var 4) (fun _ _ => rfl)) (da_cons (de_str) (da_cons (de_ix ix_seq (si_ix rfl) (de_var 3) (de_op op_mod si_mod (de_op op_add si_add (de_var 4) (de_int)) (de_var 2)) (fun _ _ => rfl)) da_nil)))))))
      (dss_cons (ds_set (i := 5) sc__law_ring.nd rfl (Or.inl rfl) (de_new (da_nil)))
      (dss_cons (ds_for PassesOwn.never rfl (di_range1 (by rfl) T.range (da_cons (de_callB (call_min2 rfl) si_min2 (by rfl) T.min (by decide +kernel) (da_cons (de_var 2) (da_cons (de_int) da_nil))) da_nil)) (dg_name (i := 4) sc__law_ring.nd rfl (Or.inl rfl))
        (dss_cons (ds_set (i := 6) sc__law_ring.nd rfl (Or.inl rfl) (de_ix ix_seq (si_ix rfl) (de_var 3) (de_var 4) (fun _ _ => rfl)))
        (dss_one (ds_for PassesOwn.never rfl (di_range1 (by rfl) T.range (da_cons (de_ix ix_seq (si_ix rfl) (de_lst (da_cons (de_int) (da_cons (de_int) (da_cons (de_int) (da_cons (de_int) da_nil))))) (de_call G__law_dig (hr.mono (by decide)) (by rfl) (da_cons (de_var 0) (da_cons (de_int) da_nil))) (fun _ _ => rfl)) da_nil)) (dg_name (i := 7) sc__law_ring.nd rfl (Or.inl rfl))
          (dss_cons (ds_expr (de_ml PySem.F.slot_list_append PySem.F.type_list_append mt_append si_app (de_var 5) (da_cons (de_meth T.Hall_ G_Hall_make (hr.mono (by decide)) (de_var 1) (da_cons (de_str) (da_cons (de_non) da_nil))) da_nil)))
          (dss_cons (ds_expr (de_meth T.Hall_ G_Hall_put (hr.mono (by decide)) (de_var 1) (da_cons (de_var 6) (da_cons (de_var 7) (da_cons (de_ix ix_seq (si_ix rfl) (de_var 5) (de_neg (de_int)) (fun _ _ => rfl)) da_nil)))))
          (dss_one (ds_set (i := 6) sc__law_ring.nd rfl (Or.inl rfl) (de_ix ix_seq (si_ix rfl) (de_var 5) (de_neg (de_int)) (fun _ _ => rfl))))))))))
      (dss_one (ds_ret (de_op op_cat si_cat (de_var 3) (de_frz 5))))))), fun ds S q qx ⟨dxe, k, z, H, s, w, own, hd, Q, r, h1, hk, hk4, hq⟩ => ?_⟩
  subst hd
  have hI0 : (⟨dxe, [], fun _ => [], 0⟩ : Ix).Ok := ⟨⟨fun _ _ => rfl, fun _ _ h => (by cases h)⟩, fun _ _ => rfl, fun _ _ h => (by cases h)⟩
  walk_at "dl"
  refine rngOf (by omega) (by omega) ?_
  refine lcOfS (fun i acc S' => ∃ H' s', Q9 CT CH CE dxe H' s' w own S' ∧ Rs k s' ∧ s'.many = s.many + i ∧ s'.parts = s.parts ∧ s'.outer = s.outer ∧ Hm s.many H H' ∧ acc = (List.range i).map fun j => D.ref (H'.a (.t (s.many + 1 + j)))) (by rw [rngD_len]; omega) ⟨H, s, Q, r, rfl, rfl, rfl, Hm.refl, rfl⟩ ?_ ?_
  · rintro pl hpl i d acc S3 hi hpl3 ⟨H', s', Q', r', m', p', o', hm, rfl⟩
    obtain ⟨rfl, hin⟩ := rngD_get hi
    have Qn := Q'.new hpl3 (.lst ((List.range i).map fun j => D.ref (H'.a (.t (s.many + 1 + j)))))
    walk_at "dl"
    refine needOf (methOf (x := .non) (by rw [← hm.hall]; exact hrep_hall Qn.h) rfl) ?_
    walk_at "dl"
    refine ⟨_, hI0, H', s', "being", .non, by rw [hm.hall], Qn.h, r'.W, fun H2 S4 T1 => ?_⟩
    have Q2 := Qn.step T1
    refine ⟨DL.del S4 pl, DL.del_same, put_del Q2.top, H2, _, Q2.del, r'.made (by omega) hk4 _, by show s'.many + 1 = _; omega, p', o', hm.step T1 (by omega), ?_⟩
    rw [List.range_succ, List.map_append]
    congr 1
    · refine List.map_congr_left fun j hj => ?_
      have := List.mem_range.mp hj
      rw [T1.t (by omega) (by omega)]
    · show [D.ref (H2.a (.t (s'.many + 1)))] = [D.ref (H2.a (.t (s.many + 1 + i)))]
      rw [m', show s.many + i + 1 = s.many + 1 + i by omega]
  rintro acc S3 ⟨H1, s1, Q1, r1, m1, p1, o1, hm1, rfl⟩
  rw [rngD_len] at m1
  have ez : (((z : Nat) : Int)).toNat = z := by omega
  rw [rngD_len]
  simp only [ez] at m1 ⊢
  have hth : ∀ {j : Nat}, j < z → ((List.range z).map fun j => D.ref (H1.a (.t (s.many + 1 + j))))[j]? = some (D.ref (H1.a (.t (s.many + 1 + j)))) := fun {j} h => by rw [List.getElem?_map, List.getElem?_range h]; rfl
  generalize hTL : ((List.range z).map fun j => D.ref (H1.a (.t (s.many + 1 + j)))) = TL at hth ⊢
  walk_at "dl"
  refine rngOf (by omega) (by omega) ?_
  refine forOf (fun i δ S' => ∃ H' s' z4, δ = [some (.ref w), some (.ref (H.a .hall)), some (.int (z : Int)), some (.list TL), z4, none, none, none] ∧ Q9 CT CH CE dxe H' s' w own S' ∧ Rs k s' ∧ s'.many = s.many + z ∧ s'.outer = s.outer ∧ (∀ n, n ≤ s.many → s'.parts n = s.parts n) ∧ (∀ j, j < z → s'.parts (s.many + 1 + j) = if j < i then [(kNext, .th (s.many + 1 + (j + 1) % z))] else []) ∧ Hm (s.many + z) H1 H') ⟨H1, s1, _, rfl, Q1, r1, m1, o1, fun n _ => by rw [p1], fun j hj => by rw [if_neg (Nat.not_lt_zero j), p1]; exact r.W.pz _ (by omega), Hm.refl⟩ ?_ ?_
  · rintro i d δ S4 hi ⟨H', s', z4, rfl, Q', r', m', o', old, new, hm⟩
    obtain ⟨rfl, hin⟩ := rngD_get hi
    have hiz : i < z := by omega
    have hmz := Nat.mod_lt (i + 1) (show 0 < z by omega)
    rw [show (0 : Int) + (i : Int) = ((i : Nat) : Int) by omega]
    walk_at "dl"
    refine needOf (methOf (x := .non) (by rw [← hm1.hall, ← hm.hall]; exact hrep_hall Q'.h) rfl) ?_
    walk_at "dl"
    refine ixAt (.inl rfl) (hth hiz) ?_
    walk_at "dl"
    refine needOf (by omega) ?_
    rw [show ((i : Int) + 1) % (z : Int) = (((i + 1) % z : Nat) : Int) from (Int.natCast_emod (i + 1) z).symm]
    show ixq _ _ S4 _ ⟨⟩
    refine ixAt (.inl rfl) (hth hmz) ?_
    have hpn : s'.parts (s.many + 1 + i) = [] := by rw [new i hiz, if_neg (Nat.lt_irrefl i)]
    have hv : gval (s'.parts (s.many + 1 + i)) kNext = none := by rw [hpn]; rfl
    refine ⟨_, hI0, H', s', s.many + 1 + i, .str "next", kNext, .th (s.many + 1 + (i + 1) % z), _, ?_, Q'.h, r'.W, by omega, by omega, rfl, k6_any (by simp [K6, kNext]), ⟨by omega, by omega⟩, r'.len _, r'.put_l hv _, fun H2 S5 T1 => ?_⟩
    · rw [← hm1.hall, ← hm.hall, ← hm.t (s.many + 1 + i) (by omega) (by omega), ← hm.t (s.many + 1 + (i + 1) % z) (by omega) (by omega)]
      rfl
    refine ⟨H2, _, _, rfl, Q'.step T1, r'.put (by omega) (by omega) (by omega) (by omega) (by simp [K6, kNext]) hv, m', o', fun n hn => ?_, fun j hj => ?_, hm.step T1 (by omega)⟩
    · show fset s'.parts (s.many + 1 + i) _ n = _
      rw [fset_ne (by omega)]
      exact old n hn
    · show fset s'.parts (s.many + 1 + i) (gput (s'.parts (s.many + 1 + i)) kNext _) (s.many + 1 + j) = _
      by_cases y : j = i
      · subst y
        rw [fset_same, hpn, if_pos (Nat.lt_succ_self j)]
        rfl
      · rw [fset_ne (by omega), new j hj]
        by_cases y2 : j < i
        · rw [if_pos y2, if_pos (by omega)]
        · rw [if_neg y2, if_neg (by omega)]
  rintro δ S4 ⟨H2, s2, z4, rfl, Q2, r2, m2, o2, old2, new2, hm2⟩
  rw [rngD_len, ez] at new2
  have B := RgB.begin (s := s) h1 r2.W m2 o2 old2 fun j hj => by rw [new2 j hj, if_pos hj]
  have new3 : ∀ j, 0 ≤ j → j < z → gval (s2.parts (s.many + 1 + j)) (.inl 0) = none := fun j _ hj => by rw [new2 j hj, if_pos hj]; rfl
  clear new2 old2
  walk_at "dl"
  refine freshOf fun pa hpa => ?_
  have Q3 := Q2.new hpa (.lst ((List.range (z - z)).map fun j => D.ref (H2.a (.t (s.many + z + 1 + j)))))
  rw [Nat.sub_self] at Q3
  walk_at "dl"
  obtain ⟨c, ec, hc9, hcz⟩ : ∃ c : Nat, (if (9 : Int) < (z : Int) then (9 : Int) else (z : Int)) = (c : Int) ∧ c ≤ 9 ∧ c ≤ z := by
    by_cases y : (9 : Int) < (z : Int)
    · exact ⟨9, by rw [if_pos y]; rfl, Nat.le_refl _, by omega⟩
    · exact ⟨z, by rw [if_neg y], by omega, Nat.le_refl _⟩
  rw [ec]
  refine rngOf (by omega) (by omega) ?_
  refine forOf (fun i δ S' => ∃ H' s' l z4 z6 z7, δ = [some (.ref w), some (.ref (H.a .hall)), some (.int (z : Int)), some (.list TL), z4, some (.ref pa), z6, z7] ∧ Q9 CT CH CE dxe H' s' w ((pa, .lst ((List.range (l - z)).map fun j => D.ref (H'.a (.t (s.many + z + 1 + j))))) :: own) S' ∧ Rs k s' ∧ RgB s.many z l s s' ∧ l ≤ z + 3 * i ∧ (∀ j, i ≤ j → j < z → gval (s'.parts (s.many + 1 + j)) (.inl 0) = none) ∧ Hm (s.many + z) H1 H')
    ⟨H2, s2, z, _, _, _, rfl, by rw [Nat.sub_self]; exact Q3, r2, B, Nat.le_refl _, new3, hm2⟩ ?_ ?_
  · rintro i d δ S5 hi ⟨H', s', l, z5, z6, z7, rfl, Q', r', B', hl, free, hm⟩
    obtain ⟨rfl, hin⟩ := rngD_get hi
    have hiz : i < z := by omega
    rw [show (0 : Int) + (i : Int) = ((i : Nat) : Int) by omega]
    walk_at "dl"
    refine ixAt (.inl rfl) (hth hiz) ?_
    walk_at "dl"
    refine ⟨w, 4, rfl, Q'.wl, by decide, by decide, fun r4 S6 hr4 hw6 f6 => ?_⟩
    have Q4 := Q'.well hw6 f6
    walk_at "dl"
    obtain ⟨t, ht3, hget⟩ : ∃ t : Nat, t ≤ 3 ∧ [D.int 0, D.int 0, D.int 1, D.int 3][r4]? = some (.int (t : Int)) := by
      rcases r4 with _ | _ | _ | _ | r4
      · exact ⟨0, by decide, rfl⟩
      · exact ⟨0, by decide, rfl⟩
      · exact ⟨1, by decide, rfl⟩
      · exact ⟨3, by decide, rfl⟩
      · omega
    refine ixAt (.inl rfl) hget ?_
    walk_at "dl"
    refine rngOf (by omega) (by omega) ?_
    refine forOf (fun jj δ S' => ∃ H' s' l x z7, δ = [some (.ref w), some (.ref (H.a .hall)), some (.int (z : Int)), some (.list TL), some (.int (i : Int)), some (.ref pa), some (.ref (H'.a (.t x))), z7] ∧ Q9 CT CH CE dxe H' s' w ((pa, .lst ((List.range (l - z)).map fun j => D.ref (H'.a (.t (s.many + z + 1 + j))))) :: own) S' ∧ Rs k s' ∧ RgB s.many z l s s' ∧ l ≤ z + 3 * i + jj ∧ s.many < x ∧ x ≤ s.many + l ∧ (x = s.many + 1 + i ∨ s.many + z < x) ∧ gval (s'.parts x) (.inl (jj : Int)) = none ∧ (∀ j, i < j → j < z → gval (s'.parts (s.many + 1 + j)) (.inl 0) = none) ∧ Hm (s.many + z) H1 H')
      ⟨H', s', l, s.many + 1 + i, _, by rw [hm.t _ (by omega) (by omega)], Q4, r', B', by omega, by omega, by have := B'.zl; omega, .inl rfl, free i (Nat.le_refl _) hiz, fun j a b => free j (by omega) b, hm⟩ ?_ ?_
    · rintro jj d δ S7 hjj ⟨H5, s5, l5, x, z8, rfl, Q5, r5, B5, hl5, hx1, hx2, hx3, hv, free5, hm5⟩
      obtain ⟨rfl, hjn⟩ := rngD_get hjj
      have hjt : jj < t := by omega
      rw [show (0 : Int) + (jj : Int) = ((jj : Nat) : Int) by omega]
      have hzl := B5.zl
      have hmm := B5.many
      have hkr : (Sum.inl ((jj : Nat) : Int) : Key) ≠ kRing := nofun
      have hk6 : (Sum.inl ((jj : Nat) : Int) : Key) ∈ K6 := by
        have : jj = 0 ∨ jj = 1 ∨ jj = 2 := by omega
        rcases this with rfl | rfl | rfl <;> simp [K6]
      walk_at "dl"
      refine needOf (isLOf Q5.top) ?_
      walk_at "dl"
      have hall5 : H5.a .hall = H.a .hall := by rw [hm5.hall, hm1.hall]
      refine needOf (methOf (x := .non) (by rw [← hall5]; exact hrep_hall Q5.h) rfl) ?_
      walk_at "dl"
      refine ⟨_, hI0, H5, s5, "list", .non, by rw [hall5], Q5.h, r5.W, fun H6 S8 T1 => ?_⟩
      have Q6 := Q5.step T1
      have r6 := r5.made (by omega) hk4 (.str "list")
      have hall6 : H6.a .hall = H.a .hall := T1.hall.trans hall5
      have eL : (List.range (l5 - z)).map (fun j => D.ref (H5.a (.t (s.many + z + 1 + j)))) ++ [D.ref (H6.a (.t (s5.many + 1)))] = (List.range (l5 + 1 - z)).map fun j => D.ref (H6.a (.t (s.many + z + 1 + j))) := by
        rw [show l5 + 1 - z = (l5 - z) + 1 by omega, List.range_succ, List.map_append]
        congr 1
        · refine List.map_congr_left fun j hj => ?_
          have := List.mem_range.mp hj
          rw [T1.t (by omega) (by omega)]
        · show [D.ref (H6.a (.t (s5.many + 1)))] = [D.ref (H6.a (.t (s.many + z + 1 + (l5 - z))))]
          rw [show s.many + z + 1 + (l5 - z) = s5.many + 1 by omega]
      walk_at "dl"
      refine appOf Q6.top (by rw [List.length_map, List.length_range]; omega) ?_
      have Q7 := Q6.set (.lst ((List.range (l5 - z)).map (fun j => D.ref (H5.a (.t (s.many + z + 1 + j)))) ++ [D.ref (H6.a (.t (s5.many + 1)))]))
      have hlast : put S8 pa (.lst ((List.range (l5 - z)).map (fun j => D.ref (H5.a (.t (s.many + z + 1 + j)))) ++ [D.ref (H6.a (.t (s5.many + 1)))])) pa = _ := put_same
      generalize put S8 pa (.lst ((List.range (l5 - z)).map (fun j => D.ref (H5.a (.t (s.many + z + 1 + j)))) ++ [D.ref (H6.a (.t (s5.many + 1)))])) = S9 at Q7 hlast ⊢
      walk_at "dl"
      refine needOf (methOf (x := .non) (by rw [← hall6]; exact hrep_hall Q7.h) rfl) ?_
      walk_at "dl"
      refine ixLast9 hlast ?_
      walk_at "dl"
      have hm6 := hm5.step T1 (by omega)
      have hv6 : gval ((s5.made (.str "list") .non).parts x) (.inl ((jj : Nat) : Int)) = none := hv
      obtain ⟨B6, hne⟩ := B5.hang r5.W hx1 hx2 hkr hv (.str "list")
      refine ⟨_, hI0, H6, s5.made (.str "list") .non, x, .int (jj : Int), .inl (jj : Int), .th (s5.many + 1), _, ?_, Q7.h, r6.W, by omega, by show x ≤ s5.many + 1; omega, rfl, k6_any hk6, ⟨by omega, by show s5.many + 1 ≤ s5.many + 1; omega⟩, r6.len _, r6.put_l hv6 _, fun H7 S10 T2 => ?_⟩
      · rw [← hall6, ← T1.t (by omega) (by omega : x ≤ s5.many)]
        rfl
      have Q8 := Q7.step T2
      have e7 : H7.a (.t (s5.many + 1)) = H6.a (.t (s5.many + 1)) := T2.t (by omega) (Nat.le_refl _)
      rw [eL] at Q8
      have eL2 : (List.range (l5 + 1 - z)).map (fun j => D.ref (H6.a (.t (s.many + z + 1 + j)))) = (List.range (l5 + 1 - z)).map fun j => D.ref (H7.a (.t (s.many + z + 1 + j))) := by
        refine List.map_congr_left fun j hj => ?_
        have := List.mem_range.mp hj
        rw [T2.t (by omega) (by show _ ≤ s5.many + 1; omega)]
      rw [eL2] at Q8
      have hlast8 := Q8.top
      rw [← eL2, ← eL] at hlast8
      walk_at "dl"
      refine ixLast9 hlast8 ?_
      walk_at "dl"
      have hpn : (((s5.made (.str "list") .non).putP x (.inl ((jj : Nat) : Int)) (.th (s5.many + 1))).parts (s5.many + 1)) = [] := by rw [hne _ (by omega)]; exact r5.W.pz _ (by omega)
      refine ⟨H7, _, l5 + 1, s5.many + 1, _, by rw [e7], Q8, r6.put (by omega) (by show x ≤ s5.many + 1; omega) (by omega) (by show s5.many + 1 ≤ s5.many + 1; omega) hk6 hv6, B6, by omega, by omega, by omega, .inr (by omega), by rw [hpn]; rfl, fun j a b => ?_, hm6.step T2 (by show _ ≤ s5.many + 1; omega)⟩
      rw [hne _ (by omega)]
      exact free5 j a b
    · rintro δ S7 ⟨H5, s5, l5, x, z8, rfl, Q5, r5, B5, hl5, hx1, hx2, hx3, hv, free5, hm5⟩
      rw [rngD_len] at hl5
      exact ⟨H5, s5, l5, _, _, _, rfl, Q5, r5, B5, by omega, fun j a b => free5 j (by omega) b, hm5⟩
  rintro δ S5 ⟨H', s', l, z5, z6, z7, rfl, Q', r', B', hl, free, hm⟩
  rw [rngD_len] at hl
  have hzl := B'.zl
  walk_at "dl"
  refine frzOf Q'.top ?_
  have Qd := Q'.del
  walk_at "dl"
  refine fewOf (by rw [← hTL, List.length_map, List.length_map, List.length_range, List.length_range]; omega) ?_
  have eT : TL ++ (List.range (l - z)).map (fun j => D.ref (H'.a (.t (s.many + z + 1 + j)))) = (List.range l).map fun j => D.ref (H'.a (.t (s.many + 1 + j))) := by
    rw [← hTL, show l = z + (l - z) by omega, List.range_add, List.map_append, List.map_map, show z + (l - z) - z = l - z by omega]
    congr 1
    · refine List.map_congr_left fun j hj => ?_
      have := List.mem_range.mp hj
      rw [hm.t _ (by omega) (by omega)]
    · refine List.map_congr_left fun j hj => ?_
      show _ = D.ref (H'.a (.t (s.many + 1 + (z + j))))
      rw [show s.many + z + 1 + j = s.many + 1 + (z + j) by omega]
  rw [eT]
  exact hq H' s' _ l Qd r' B' (by omega) (hm1.trans hm (by omega))
end
end K

set_option Elab.async false
set_option linter.all false
set_option maxRecDepth 100000
namespace DL
open PySem L2 Evl EX
theorem lcSOfS {gc : DGc} {t : DT} {de : DE} {vs : List Nat} {ds : List D} {Φ : Sto → Prop} {δ : Dst} {S : Sto} {k : DK} (I : Nat → List D → Sto → Prop) (hl : ds.length < 100000) (h0 : I 0 [] S) (hΦ : ∀ p n acc S', S' p = none → I n acc S' → Φ (put S' p (.lst acc)))
    (hs : ∀ p, S p = none → ∀ n d acc S', ds[n]? = some d → S' p = none → I n acc S' → gc d (wipeD δ vs) fun δ2 => t δ2 (put S' p (.lst acc)) fun b S2 => branch b (de δ2 S2 (fun y S3 => ∃ S4, S4 p = none ∧ S3 = put S4 p (.lst acc) ∧ I (n + 1) (acc ++ [y]) S4)) (∃ S4, S4 p = none ∧ S2 = put S4 p (.lst acc) ∧ I (n + 1) acc S4) ⟨⟩)
    (hd : ∀ acc S', I ds.length acc S' → k (.list acc) S') : lcSC ds Φ gc t de vs δ S k ⟨⟩ :=
  ⟨hl, fun p hp => ⟨I, h0, fun n acc S' h1 h2 => hΦ p n acc S' h1 h2, fun n d acc S' hd' hp' hI => hs p hp n d acc S' hd' hp' hI, fun acc S' _ hI => hd acc S' hI⟩⟩
end DL
namespace K
open PySem L2 Evl EX DL HM
def ringD (H : HA) (g : Rg) : D := .list ((List.range g.l).map fun j => .ref (H.a (.t (g.a + 1 + j))))
theorem ringD_congr {H H' : HA} {m : Nat} (hm : Hm m H H') {g : Rg} (h : g.a + g.l ≤ m) : ringD H' g = ringD H g := by
  unfold ringD
  congr 1
  refine List.map_congr_left fun j hj => ?_
  have := List.mem_range.mp hj
  rw [hm.t _ (by omega) (by omega)]
theorem ringsD_congr {H H' : HA} {m : Nat} (hm : Hm m H H') {rs : List Rg} (h : ∀ (i : Nat) (g : Rg), rs[i]? = some g → g.a + g.l ≤ m) : rs.map (ringD H') = rs.map (ringD H) := List.map_congr_left fun g hg => by
  obtain ⟨i, hi⟩ := List.mem_iff_getElem?.mp hg
  exact ringD_congr hm (h i g hi)
theorem ring_first {S : Sto} {k : DK} {H : HA} {g : Rg} (h : 0 < g.l) (q : k (.ref (H.a (.t g.fst))) S) : ixq (ringD H g) ((0 : Nat) : Int) S k ⟨⟩ := ixAt (.inl rfl) (by rw [List.getElem?_map, List.getElem?_range h]; rfl) q
/-- the rings as they are built -/
structure Bd (i : Nat) (s : Hs) (rs : List Rg) (fo : Nat → Bool) : Prop where
  I : RgI s rs fo
  n : rs.length = i
  out : ∀ (j : Nat) (g : Rg), rs[j]? = some g → g.fst ∈ s.outer
  ol : s.outer.length = i
  my : s.many ≤ 1550 + 40 * i
  f0 : fo 0 = false
  sum : (rs.map (·.l)).sum = s.many
theorem cmul_le {i j : Int} (h1 : 0 ≤ i) (h2 : i ≤ 100000) : CMul i j := .inl ⟨by omega, by omega⟩
theorem _root_.HM.RgI.congr {s s' : Hs} {rs : List Rg} {fo : Nat → Bool} (I : RgI s rs fo) (h1 : s'.parts = s.parts) (h2 : s'.many = s.many) : RgI s' rs fo := by
  have e : ledP s' = ledP s := by unfold ledP; rw [h1]
  exact ⟨I.pos, by rw [h2]; exact I.cov, by rw [h2]; exact I.rng, I.ord, by rw [h1]; exact I.i1, by rw [h1]; exact I.i2, by rw [e]; exact I.i3, by rw [e]; exact I.i4, I.fo0⟩
def _root_.HM.Rg.nums (g : Rg) : List Nat := (List.range g.l).map (g.a + 1 + ·)
def dueN (rs : List Rg) (sy : Nat → Bool) : Nat → List Nat
  | 0 => []
  | i + 1 => dueN rs sy i ++ (match rs[i]? with | some g => if sy i = true then [] else g.nums | none => [])
theorem nums_mem {g : Rg} {n : Nat} : n ∈ g.nums ↔ g.has n := by
  unfold Rg.nums Rg.has
  rw [List.mem_map]
  constructor
  · rintro ⟨j, h1, rfl⟩
    have := List.mem_range.mp h1
    omega
  · rintro ⟨h1, h2⟩
    exact ⟨n - (g.a + 1), List.mem_range.mpr (by omega), by omega⟩
theorem due_mem {rs : List Rg} {sy : Nat → Bool} {n : Nat} : ∀ {i : Nat}, n ∈ dueN rs sy i ↔ ∃ (j : Nat) (g : Rg), j < i ∧ rs[j]? = some g ∧ g.has n ∧ sy j = false
  | 0 => ⟨fun h => (by cases h), fun ⟨_, _, h, _⟩ => absurd h (Nat.not_lt_zero _)⟩
  | i + 1 => by
    show n ∈ dueN rs sy i ++ _ ↔ _
    rw [List.mem_append, due_mem]
    constructor
    · rintro (⟨j, g, h1, h2⟩ | h)
      · exact ⟨j, g, by omega, h2⟩
      · cases hg : rs[i]? with
        | none => rw [hg] at h; cases h
        | some g =>
          rw [hg] at h
          simp only at h
          cases hs : sy i with
          | true => rw [hs, if_pos rfl] at h; cases h
          | false => rw [hs, if_neg nofun] at h; exact ⟨i, g, Nat.lt_succ_self i, hg, nums_mem.mp h, hs⟩
    · rintro ⟨j, g, h1, h2, h3, h4⟩
      by_cases y : j < i
      · exact .inl ⟨j, g, y, h2, h3, h4⟩
      · have : j = i := by omega
        subst this
        right
        rw [h2]
        simp only [h4]
        rw [if_neg nofun]
        exact nums_mem.mpr h3
theorem due_srt {s : Hs} {rs : List Rg} {fo sy : Nat → Bool} (I : RgI s rs fo) : ∀ i : Nat, (dueN rs sy i).Pairwise (· < ·)
  | 0 => List.Pairwise.nil
  | i + 1 => by
    show (dueN rs sy i ++ _).Pairwise _
    rw [List.pairwise_append]
    refine ⟨due_srt I i, ?_, fun a ha b hb => ?_⟩
    · cases rs[i]? with
      | none => exact List.Pairwise.nil
      | some g =>
        show (if sy i = true then [] else g.nums).Pairwise _
        split
        · exact List.Pairwise.nil
        · unfold Rg.nums
          rw [List.pairwise_map]
          exact List.Pairwise.imp (fun h => by omega) List.pairwise_lt_range
    · obtain ⟨j, g, h1, h2, h3, _⟩ := due_mem.mp ha
      cases hg : rs[i]? with
      | none => rw [hg] at hb; cases hb
      | some g2 =>
        rw [hg] at hb
        have hb : b ∈ (if sy i = true then [] else g2.nums) := hb
        split at hb
        · cases hb
        · have h4 := nums_mem.mp hb
          have h5 := I.ord j i g g2 h2 hg h1
          have := h3.2
          have := h4.1
          omega
theorem bd0 : Bd 0 s0 [] fun _ => false := ⟨⟨fun _ _ h => (by cases h), fun n a b => absurd (show n ≤ 0 from b) (by omega), fun _ _ h => (by cases h), fun _ _ _ _ h => (by cases h), fun _ _ _ h => (by cases h), fun _ _ _ h => (by cases h), fun _ _ _ h => (by cases h), fun _ _ h => (by cases h), fun _ _ => rfl⟩, rfl, fun _ _ h => (by cases h), rfl, Nat.zero_le _, rfl, rfl⟩
theorem _root_.List.getElem?_range_some {n i j : Nat} (h : (List.range n)[i]? = some j) : i < n ∧ i = j := by
  by_cases y : i < n
  · rw [List.getElem?_range y] at h; cases h; exact ⟨y, rfl⟩
  · rw [List.getElem?_eq_none (by rw [List.length_range]; omega)] at h; cases h
theorem stay_fin {CT CH CE dxe : Addr} {H : HA} {s : Hs} {w sy : Addr} {own : List (Addr × O)} {S : Sto} {kp fo : Nat → Bool} {i : Nat} {b : Bool} (h : st kp fo i = b) (Q : Q9 CT CH CE dxe H s w ((sy, .lst ((List.range i).map fun j => .bl (st kp fo j))) :: own) S) :
    Q9 CT CH CE dxe H s w ((sy, .lst ((List.range (i + 1)).map fun j => .bl (st kp fo j))) :: own) (put S sy (.lst ((List.range i).map (fun j => D.bl (st kp fo j)) ++ [D.bl b]))) := by
  have Q5 := Q.set (.lst ((List.range i).map (fun j => D.bl (st kp fo j)) ++ [D.bl b]))
  rw [List.range_succ, List.map_append]
  rw [← h] at Q5 ⊢
  exact Q5
def cntL (rs : List Rg) (s : Hs) (j : Nat) : List D := match rs[j]? with
  | some g => (List.range g.l).map fun t => .int (s.cnt (g.a + 1 + t))
  | none => []
def fstOf (rs : List Rg) (j : Nat) : Nat := match rs[j]? with
  | some g => g.fst
  | none => 0
theorem cntL_ints (rs : List Rg) (s : Hs) (j : Nat) : ∃ l : List Int, cntL rs s j = l.map D.int := by
  unfold cntL
  cases rs[j]? with
  | none => exact ⟨[], rfl⟩
  | some g => exact ⟨(List.range g.l).map fun t => s.cnt (g.a + 1 + t), by rw [List.map_map]; rfl⟩
theorem cntL_any (rs : List Rg) (s : Hs) (j : Nat) : (D.list (cntL rs s j)).any = true := by
  obtain ⟨l, e⟩ := cntL_ints rs s j
  rw [e]; exact ints_any l
theorem cntL_deep (rs : List Rg) (s : Hs) (j : Nat) : (D.list (cntL rs s j)).deep ≤ 64 := by
  obtain ⟨l, e⟩ := cntL_ints rs s j
  rw [e, ints_deep]; exact Nat.le_of_ble_eq_true rfl
theorem cnt_same {rs : List Rg} {s s' : Hs} {i : Nat} {g : Rg} (hg : rs[i]? = some g) (h : ∀ x, g.has x → s.cnt x = s'.cnt x) : cntL rs s i = cntL rs s' i := by
  unfold cntL
  rw [hg]
  refine List.map_congr_left fun t ht => ?_
  have := List.mem_range.mp ht
  rw [h _ ⟨by omega, by omega⟩]
theorem cnt_less {rs : List Rg} {s s' : Hs} {i : Nat} {g : Rg} (hg : rs[i]? = some g) (hp : 0 < g.l) (h0 : s.cnt g.fst = s'.cnt g.fst + 1) (h : ∀ x, g.has x → x ≠ g.fst → s.cnt x = s'.cnt x) : (cntL rs s i).set 0 (.int (s.cnt g.fst - 1)) = cntL rs s' i := by
  unfold cntL
  rw [hg]
  show ((List.range g.l).map fun t => D.int (s.cnt (g.a + 1 + t))).set 0 _ = (List.range g.l).map fun t => D.int (s'.cnt (g.a + 1 + t))
  refine List.ext_getElem? fun t => ?_
  rw [List.getElem?_set]
  by_cases y : 0 = t
  · subst y
    rw [if_pos rfl, if_pos (by rw [List.length_map, List.length_range]; exact hp), List.getElem?_map, List.getElem?_range hp]
    show some (D.int (s.cnt g.fst - 1)) = some (D.int (s'.cnt (g.a + 1 + 0)))
    rw [h0, show g.a + 1 + 0 = g.fst from rfl]
    congr 2
    omega
  · rw [if_neg y, List.getElem?_map, List.getElem?_map]
    by_cases z : t < g.l
    · rw [List.getElem?_range z]
      show some (D.int (s.cnt (g.a + 1 + t))) = some (D.int (s'.cnt (g.a + 1 + t)))
      rw [h _ ⟨by omega, by omega⟩ (by unfold Rg.fst; omega)]
    · rw [List.getElem?_eq_none (by rw [List.length_range]; omega)]
      rfl
theorem sum_cast : ∀ rs : List Rg, (rs.map fun g => (g.l : Int)).sum = (((rs.map (·.l)).sum : Nat) : Int)
  | [] => rfl
  | g :: rs => by rw [List.map_cons, List.map_cons, List.sum_cons, List.sum_cons, sum_cast rs]; omega
theorem ixN_zero {n : Nat} (h : 0 < n) : ixN n 0 = some 0 := by
  unfold ixN
  simp
  omega
section
variable {P : Program} {w : World} {K : PySem.W.Frag} {mg : Str → Option Value} {base : Heap} {CT CH CE CD : Addr}
local macro_rules | `(tactic| walk_at "dl") => `(tactic| try simp only [↓x_lcN, ↓x_lcSN, ↓x_catM, ↓x_catMN, ↓x_inO, ↓x_eqE, ↓x_eqF, ↓x_isE, ↓x_lenSetI, ↓x_neV, ↓x_sortSet, ↓x_sortDLN, ↓x_lrg, ↓x_neg, ↓x_lcS, ↓x_lockE, ↓x_eqA, ↓x_dictD, ↓x_disp, ↓x_pNil, ↓x_pCons, ↓x_forS, ↓x_diSL, ↓x_diKeys, ↓x_lock, ↓x_dictP, ↓x_fld, ↓x_fldS, ↓x_fldA, ↓x_meth, ↓x_make, ↓x_dget, ↓x_din, ↓x_dget1, ↓x_dget2, ↓x_dpop, ↓x_dput, ↓x_listD, ↓x_sortDI, ↓x_lenD, ↓x_isiC, x_icS, x_icI, x_icB, x_icN, x_ioS, x_ioI, x_ioB, x_ioN, ↓x_gSub, ↓x_sortDL, ↓x_eqO, ↓x_ninA, x_catN, x_isBB, x_isBN, x_isBI, x_isBS, x_isBR, ↓x_seq, ↓x_nx, ↓x_pass, ↓x_brk, ↓x_cnt, ↓x_drop, ↓x_ret, ↓x_retN, ↓x_ifS, ↓x_set, ↓x_asg, ↓x_gN, ↓x_gT, ↓x_gsC, ↓x_gsN, ↓x_var, x_rdv, ↓x_c, ↓x_op, ↓x_test, x_tst, ↓x_and, ↓x_or, ↓x_not, ↓x_andV, ↓x_orV, ↓x_notV, x_tstV, ↓x_ifE, x_true, x_false, ↓x_nil, ↓x_cons, ↓x_tup, ↓x_lst, ↓x_new, ↓x_newD, ↓x_call, ↓x_cb, x_oI, x_oIc, x_oS, x_addS, x_isN, x_notN, x_eqI, x_eqS, x_eqIS, x_eqSI, x_eqNS, x_neI, x_neS, x_neB, x_eqB, x_few, x_need, ↓x_ix, x_lenS, x_ixL0, x_ixT0, x_ixT1, x_ixT2, x_ixT3, x_ixT4, x_lenL, x_lenT, x_lenC, x_listL, x_listT, x_tupL, x_tupT, x_strI, x_strS, x_int1, x_intB, x_I1, x_I2, x_cat, x_catT, ↓x_split, ↓x_for, ↓x_cut, ↓x_lc, ↓x_whl, ↓x_diL, ↓x_diT, ↓x_diS, x_itL, x_itC, x_itT, x_itS, ↓x_diR1, ↓x_diR2, ↓x_diE, x_enmL, x_enmC, ↓x_gcN, ↓x_gcT, ↓x_yes, ↓x_ml, ↓x_ms, x_strq, x_ss, x_ssc, x_ssi, ↓x_join, ↓x_aug, x_st2I, ↓x_sl, ↓x_noP, ↓x_part, x_intq, x_slL, x_slC, x_slS, ↓x_in, x_inT, x_inL, x_ninT, x_ninL, x_inN, x_inSS, x_inSI, x_inIS, x_inII, ↓x_sg, x_sgS, x_nsgS, ↓x_eqD, ↓x_inDD, x_mulS, ↓x_isi, x_isiS, x_isiI, x_isiB, x_isiN, x_isiL, x_isiT, ↓x_isTT, x_itI, x_itStr, x_itN, x_itB, x_itLst, x_itTup, ↓x_any, ↓x_all, ↓x_sum, ↓x_srtI, ↓x_srtS, ↓x_intS, ↓x_lenRf, ↓x_tupRf, ↓x_frz', x_flS, x_flI, x_flN, x_flB, x_cs_bool, x_isB_NoneType_bool, x_isB_bool_bool, x_isB_int_bool, x_isB_str_bool, x_isB_list_bool, x_isB_tuple_bool, x_isB_dict_bool, x_cs_int, x_isB_NoneType_int, x_isB_bool_int, x_isB_int_int, x_isB_str_int, x_isB_list_int, x_isB_tuple_int, x_isB_dict_int, x_cs_str, x_isB_NoneType_str, x_isB_bool_str, x_isB_int_str, x_isB_str_str, x_isB_list_str, x_isB_tuple_str, x_isB_dict_str, x_cs_list, x_isB_NoneType_list, x_isB_bool_list, x_isB_int_list, x_isB_str_list, x_isB_list_list, x_isB_tuple_list, x_isB_dict_list, x_cs_tuple, x_isB_NoneType_tuple, x_isB_bool_tuple, x_isB_int_tuple, x_isB_str_tuple, x_isB_list_tuple, x_isB_tuple_tuple, x_isB_dict_tuple, x_cs_dict, x_isB_NoneType_dict, x_isB_bool_dict, x_isB_int_dict, x_isB_str_dict, x_isB_list_dict, x_isB_tuple_dict, x_isB_dict_dict, List.all_cons, List.all_nil, Bool.and_self, Bool.or_false, Bool.or_true, Bool.false_or, Bool.true_or, wipeD, setD, DL.isNon, List.set_cons_zero, List.set_cons_succ, List.getElem?_cons_zero, List.getElem?_cons_succ, List.length_cons, List.length_nil, Nat.zero_add, List.cons_append, List.nil_append, decide_true, decide_false, Bool.not_true, Bool.not_false, true_and, and_true, startD, List.map_cons, List.map_nil, Nat.reduceSub, Nat.reduceLeDiff, Nat.zero_le, Int.reduceLT, Int.reduceLE, and_self, Nat.reduceAdd, List.replicate])
set_option maxHeartbeats 0 in
theorem ok_law29 {fa : Addr} {fd : FuncData} (F : Fun K "law" "law" s_law fa fd) (T : TxE K mg CT CH CE) (U : TxW K mg CT CH CD) (G_mk_Hall : MkDef P w K mg base 1 "Hall" CH ["self", "ender"] (lSp K (dHaInit CH))) (G_mk_Ends : MkDef P w K mg base 1 "Ends" CE ["self"] (lSp K (dEnInit CE))) (G_Ends_lay : MDef P w K mg base 1 CE "lay" ["self", "hall"] (lSp K (dEnLay CE)))
    (G_mk_Held : MkDef P w K mg base 1 "Held" CD ["self", "values"] (lSp K (dHeInit CD))) (G_Hall_hold : MDef P w K mg base 1 CH "hold" ["self", "value"] (lSp K (xSp CE fun I => dHold CT CH (I.en CE)))) (G_Hall_loose : MDef P w K mg base 111 CH "loose" ["self", "value"] (lSp K (xSp CE fun I => dLoose CT CH (I.en CE) (askD I.pl I.mp 13))))
    (G_Hall_put : MDef P w K mg base 112 CH "put" ["self", "thing", "key", "value"] (lSp K (xSp CE fun I => dPut CT CH (I.en CE) (askD I.pl I.mp 13)))) (G_Hall_things : MDef P w K mg base 1 CH "things" ["self"] (lSp K (xSp CE fun I => dThings CT CH (I.en CE)))) (G_Hall_gone : MDef P w K mg base 1 CH "gone" ["self"] (lSp K (xSp CE fun I => dGone CT CH (I.en CE)))) (G_Ends_asked : MDef P w K mg base 1 CE "asked" ["self"] (lSp K (xSp CE (dEnAsked CT CH CE))))
    (G_swept : DefD P w K mg base 112 "swept" ["hall", "around"] (xSp CE fun I => dSwept CT CH CD (I.en CE) (askD I.pl I.mp 13))) (G__law_well : DefD P w K mg base 1 "_law_well" ["_law_script", "_law_first"] dWell) (G__law_dig : DefD P w K mg base 2 "_law_dig" ["_law_well_here", "_law_most"] dDig)
    (G__law_ring : DefD P w K mg base 113 "_law_ring" ["_law_well_here", "_law_hall", "_law_size"] (dRing CT CH CE)) : FnOk P w K mg base CX0 114 fa fd ["_law_script"] (lSp K dLaw) := by
  refine dok F sc_law (fun ds S q qx ⟨ns, e, _⟩ => by rw [e]; rfl) ⟨_, fun cdv A outer s H E hr => dss_cons (ds_set (i := 1) sc_law.nd rfl (Or.inr rfl) (de_call G__law_well (hr.mono (by decide)) (by rfl) (da_cons (de_var 0) (da_cons (de_int) da_nil))))
      (dss_cons (ds_set (i := 2) sc_law.nd rfl (Or.inl rfl) (de_make0 G_mk_Ends (hr.mono (by decide)) (by rfl)))
      (dss_cons (ds_set (i := 3) sc_law.nd rfl (Or.inl rfl) (de_make G_mk_Hall (hr.mono (by decide)) (by rfl) (da_cons (de_var 2) da_nil)))
      (dss_cons (ds_expr (de_meth T.Ends_ G_Ends_lay (hr.mono (by decide)) (de_var 2) (da_cons (de_var 3) da_nil)))
      (dss_cons (ds_set (i := 4) sc_law.nd rfl (Or.inr rfl) (de_new (da_nil)))
      (dss_cons (ds_set (i := 5) sc_law.nd rfl (Or.inl rfl) (de_new (da_nil)))
      (dss_cons (ds_set (i := 6) sc_law.nd rfl (Or.inl rfl) (de_op op_mul si_mul (de_callTy call_int1 si_int1 (by rfl) T.int (by decide +kernel) (da_cons (de_cmp op_eq si_eq (de_call G__law_dig (hr.mono (by decide)) (by rfl) (da_cons (de_var 1) (da_cons (de_int) da_nil))) (de_int) (nomark _)) da_nil)) (de_op op_add si_add (de_int) (de_call G__law_dig (hr.mono (by decide)) (by rfl) (da_cons (de_var 1) (da_cons (de_int) da_nil))))))
      (dss_cons (ds_for PassesOwn.never rfl (di_range1 (by rfl) T.range (da_cons (de_op op_add si_add (de_int) (de_call G__law_dig (hr.mono (by decide)) (by rfl) (da_cons (de_var 1) (da_cons (de_int) da_nil)))) da_nil)) (dg_name (i := 7) sc_law.nd rfl (Or.inl rfl))
        (dss_cons (ds_expr (de_ml PySem.F.slot_list_append PySem.F.type_list_append mt_append si_app (de_var 4) (da_cons (de_call G__law_ring (hr.mono (by decide)) (by rfl) (da_cons (de_var 1) (da_cons (de_var 3) (da_cons (de_op op_add si_add (de_op op_add si_add (de_int) (de_call G__law_dig (hr.mono (by decide)) (by rfl) (da_cons (de_var 1) (da_cons (de_int) da_nil)))) (de_op op_mul si_mul (de_var 6) (de_callTy call_int1 si_int1 (by rfl) T.int (by decide +kernel) (da_cons (de_cmp op_eq si_eq (de_var 7) (de_int) (nomark _)) da_nil)))) da_nil)))) da_nil)))
        (dss_cons (ds_expr (de_meth T.Hall_ G_Hall_hold (hr.mono (by decide)) (de_var 3) (da_cons (de_ix ix_seq (si_ix rfl) (de_ix ix_seq (si_ix rfl) (de_var 4) (de_var 7) (fun _ _ => rfl)) (de_int) (fun _ _ => rfl)) da_nil)))
        (dss_cons (ds_expr (de_ml PySem.F.slot_list_append PySem.F.type_list_append mt_append si_app (de_var 5) (da_cons (de_and (de_cmp op_gt si_gt (de_var 7) (de_int) (nomark _)) (de_one (de_cmp op_eq si_eq (de_call G__law_dig (hr.mono (by decide)) (by rfl) (da_cons (de_var 1) (da_cons (de_int) da_nil))) (de_int) (nomark _)))) da_nil)))
        (dss_one (ds_if (dt_val (de_ix ix_seq (si_ix rfl) (de_var 5) (de_var 7) (fun _ _ => rfl)))
          (dss_one (ds_expr (de_meth T.Hall_ G_Hall_put (hr.mono (by decide)) (de_var 3) (da_cons (de_ix ix_seq (si_ix rfl) (de_ix ix_seq (si_ix rfl) (de_var 4) (de_op op_sub si_sub (de_var 7) (de_int)) (fun _ _ => rfl)) (de_int) (fun _ _ => rfl)) (da_cons (de_str) (da_cons (de_ix ix_seq (si_ix rfl) (de_ix ix_seq (si_ix rfl) (de_var 4) (de_var 7) (fun _ _ => rfl)) (de_int) (fun _ _ => rfl)) da_nil))))))
          (dss_nil)))))))
      (dss_cons (ds_set (i := 8) sc_law.nd rfl (Or.inr rfl) (de_lcS (own := [("_law_ring_here", 13)]) (gc_name (j := 13) (by decide)) rfl sc_law.nd (di_stl (K := K) (de_var 4)) (blkOk_by (N := N_law) (sc := defScope s_law) (by decide +kernel)) (fun _ _ _ _ _ => pg_name (i := 13) sc_law.nd rfl (Or.inl rfl)) (fun _ _ _ _ _ => dts_nil) (fun _ _ _ _ _ => de_cmp op_eq si_eq (de_call G__law_dig (hr.mono (by decide)) (by rfl) (da_cons (de_var 1) (da_cons (de_int) da_nil))) (de_int) (nomark _))))
      (dss_cons (ds_for PassesOwn.never rfl (di_range1 (by rfl) T.range (da_cons (de_callB call_len (si_len rfl) (by rfl) T.len (by decide +kernel) (da_cons (de_var 4) da_nil)) da_nil)) (dg_name (i := 7) sc_law.nd rfl (Or.inl rfl))
        (dss_one (ds_if (dt_not (dt_val (de_ix ix_seq (si_ix rfl) (de_var 8) (de_var 7) (fun _ _ => rfl))))
          (dss_one (ds_expr (de_meth T.Hall_ G_Hall_loose (hr.mono (by decide)) (de_var 3) (da_cons (de_ix ix_seq (si_ix rfl) (de_ix ix_seq (si_ix rfl) (de_var 4) (de_var 7) (fun _ _ => rfl)) (de_int) (fun _ _ => rfl)) da_nil))))
          (dss_nil))))
      (dss_cons (ds_if (PW.pt (dw_or (dt_cmp (op_neM (K := K) hr.units) (si_eqA true) (de_meth0 T.Hall_ G_Hall_gone (hr.mono (by decide)) (de_var 3)) (de_lst (da_nil)) (nomark _)) (dw_or1 (dt_cmp (op_neM (K := K) hr.units) (si_eqA true) (de_meth0 T.Ends_ G_Ends_asked (hr.mono (by decide)) (de_var 2)) (de_lst (da_nil)) (nomark _)))))
        (dss_one (ds_ret (de_bl)))
        (dss_nil))
      (dss_cons (ds_set (i := 9) sc_law.nd rfl (Or.inl rfl) (de_new (da_nil)))
      (dss_cons (ds_for PassesOwn.never rfl (di_range1 (by rfl) T.range (da_cons (de_callB call_len (si_len rfl) (by rfl) T.len (by decide +kernel) (da_cons (de_var 4) da_nil)) da_nil)) (dg_name (i := 7) sc_law.nd rfl (Or.inl rfl))
        (dss_one (ds_expr (de_ml PySem.F.slot_list_append PySem.F.type_list_append mt_append si_app (de_var 9) (da_cons (de_or (de_ix ix_seq (si_ix rfl) (de_var 8) (de_var 7) (fun _ _ => rfl)) (de_one (de_and (de_cmp op_gt si_gt (de_var 7) (de_int) (nomark _)) (de_and (de_ix ix_seq (si_ix rfl) (de_var 5) (de_var 7) (fun _ _ => rfl)) (de_one (de_ix ix_seq (si_ix rfl) (de_var 9) (de_op op_sub si_sub (de_var 7) (de_int)) (fun _ _ => rfl))))))) da_nil)))))
      (dss_cons (ds_set (i := 10) sc_law.nd rfl (Or.inl rfl) (de_new (da_nil)))
      (dss_cons (ds_for PassesOwn.never rfl (di_range1 (by rfl) T.range (da_cons (de_callB call_len (si_len rfl) (by rfl) T.len (by decide +kernel) (da_cons (de_var 4) da_nil)) da_nil)) (dg_name (i := 7) sc_law.nd rfl (Or.inl rfl))
        (dss_one (ds_if (dt_not (dt_val (de_ix ix_seq (si_ix rfl) (de_var 9) (de_var 7) (fun _ _ => rfl))))
          (dss_one (ds_expr (de_ml PySem.F.slot_list_extend PySem.F.type_list_extend mt_extend si_ext (de_var 10) (da_cons (de_lc (own := [("_law_thing", 14)]) (gc_name (j := 14) (by decide)) rfl sc_law.nd (di_list (K := K) (de_ix ix_seq (si_ix rfl) (de_var 4) (de_var 7) (fun _ _ => rfl))) (blkOk_by (N := N_law) (sc := defScope s_law) (by decide +kernel)) (fun _ _ _ _ _ => pg_name (i := 14) sc_law.nd rfl (Or.inl rfl)) (fun _ _ _ _ _ => dts_nil) (fun _ _ _ _ _ => de_fld T.Thing_ (by decide +kernel) (de_var 14))) da_nil))))
          (dss_nil))))
      (dss_cons (ds_set (i := 10) sc_law.nd rfl (Or.inl rfl) (de_callB (crSortI (K := K)) si_sortI (by rfl) T.sorted (by decide +kernel) (da_cons (de_var 10) da_nil)))
      (dss_cons (ds_setLcS (i := 11) (own := [("_law_ring_here", 13)]) (gc_name (j := 13) (by decide)) rfl sc_law.nd rfl rfl (sw_true rfl rfl rfl (by decide +kernel)) (di_stl (K := K) (de_var 4)) (blkOk_by (N := N_law) (sc := defScope s_law) (by decide +kernel)) (fun _ _ _ _ _ => pg_name (i := 13) sc_law.nd rfl (Or.inl rfl)) (fun _ _ _ _ _ => dts_nil) (fun _ _ _ _ _ => de_lcN (own := [("_law_thing", 14)]) (gc_name (j := 14) (by decide)) rfl sc_law.nd (di_list (K := K) (de_var 13)) (blkOk_by (by rfl)) (fun _ _ _ _ _ => pg_name (i := 14) sc_law.nd rfl (Or.inl rfl)) (fun _ _ _ _ _ => dts_nil) (fun _ _ _ _ _ => de_fld T.Thing_ (by decide +kernel) (de_var 14))))
      (dss_cons (ds_set (i := 12) sc_law.nd rfl (Or.inl rfl) (de_make G_mk_Held (hr.mono (by decide)) (by rfl) (da_cons (de_lc (own := [("_law_k", 7)]) (gc_name (j := 7) (by decide)) rfl sc_law.nd (di_range1 (by rfl) T.range (da_cons (de_callB call_len (si_len rfl) (by rfl) T.len (by decide +kernel) (da_cons (de_var 4) da_nil)) da_nil)) (blkOk_by (N := N_law) (sc := defScope s_law) (by decide +kernel)) (fun _ _ _ _ _ => pg_name (i := 7) sc_law.nd rfl (Or.inl rfl)) (fun _ _ _ _ _ => dts_one (dt_val (de_ix ix_seq (si_ix rfl) (de_var 8) (de_var 7) (fun _ _ => rfl)))) (fun _ _ _ _ _ => de_ix ix_seq (si_ix rfl) (de_ix ix_seq (si_ix rfl) (de_var 4) (de_var 7) (fun _ _ => rfl)) (de_int) (fun _ _ => rfl))) da_nil)))
      (dss_cons (ds_if (PW.pt (dw_or (dt_cmp (op_neM (K := K) hr.units) (si_eqA true) (de_call G_swept (hr.mono (by decide)) (by rfl) (da_cons (de_var 3) (da_cons (de_var 12) da_nil))) (de_var 10) (nomark _)) (dw_or (dt_cmp (op_neM (K := K) hr.units) (si_eqA true) (de_meth0 T.Hall_ G_Hall_gone (hr.mono (by decide)) (de_var 3)) (de_var 10) (nomark _)) (dw_or (dt_cmp (op_neM (K := K) hr.units) (si_eqA true) (de_meth0 T.Ends_ G_Ends_asked (hr.mono (by decide)) (de_var 2)) (de_var 10) (nomark _)) (dw_or1 (dt_cmp (op_neM (K := K) hr.units) (si_eqA true) (de_call G_swept (hr.mono (by decide)) (by rfl) (da_cons (de_var 3) (da_cons (de_var 12) da_nil))) (de_lst (da_nil)) (nomark _)))))))
        (dss_one (ds_ret (de_bl)))
        (dss_nil))
      (dss_cons (ds_for PassesOwn.never rfl (di_range1 (by rfl) T.range (da_cons (de_callB call_len (si_len rfl) (by rfl) T.len (by decide +kernel) (da_cons (de_var 4) da_nil)) da_nil)) (dg_name (i := 7) sc_law.nd rfl (Or.inl rfl))
        (dss_cons (ds_if (PW.pt (dw_and (dt_val (de_ix ix_seq (si_ix rfl) (de_var 5) (de_var 7) (fun _ _ => rfl))) (dw_and1 (dt_not (dt_val (de_ix ix_seq (si_ix rfl) (de_var 9) (de_op op_sub si_sub (de_var 7) (de_int)) (fun _ _ => rfl)))))))
          (dss_one (ds_asg (de_op op_sub si_sub (de_ix ix_seq (si_ix rfl) (de_ix ix_seq (si_ix rfl) (de_var 11) (de_var 7) (fun _ _ => rfl)) (de_int) (fun _ _ => rfl)) (de_int)) (dg_sub (de_ix ix_seq (si_ix rfl) (de_var 11) (de_var 7) (fun _ _ => rfl)) (de_int))))
          (dss_nil))
        (dss_one (ds_if (PW.pt (dw_and (dt_val (de_ix ix_seq (si_ix rfl) (de_var 9) (de_var 7) (fun _ _ => rfl))) (dw_and1 (dt_cmp (op_neM (K := K) hr.units) (si_eqA true) (de_lc (own := [("_law_thing", 14)]) (gc_name (j := 14) (by decide)) rfl sc_law.nd (di_list (K := K) (de_ix ix_seq (si_ix rfl) (de_var 4) (de_var 7) (fun _ _ => rfl))) (blkOk_by (N := N_law) (sc := defScope s_law) (by decide +kernel)) (fun _ _ _ _ _ => pg_name (i := 14) sc_law.nd rfl (Or.inl rfl)) (fun _ _ _ _ _ => dts_nil) (fun _ _ _ _ _ => de_fld T.Thing_ (by decide +kernel) (de_var 14))) (de_ix ix_seq (si_ix rfl) (de_var 11) (de_var 7) (fun _ _ => rfl)) (nomark _)))))
          (dss_one (ds_ret (de_bl)))
          (dss_nil)))))
      (dss_one (ds_ret (de_cmp op_eq si_eq (de_op op_add si_add (de_callB call_len (si_len rfl) (by rfl) T.len (by decide +kernel) (da_cons (de_meth0 T.Hall_ G_Hall_things (hr.mono (by decide)) (de_var 3)) da_nil)) (de_callB call_len (si_len rfl) (by rfl) T.len (by decide +kernel) (da_cons (de_var 10) da_nil))) (de_callB (crSum (K := K) rfl) si_sum (by rfl) T.sum (by decide +kernel) (da_cons (de_lcS (own := [("_law_ring_here", 13)]) (gc_name (j := 13) (by decide)) rfl sc_law.nd (di_stl (K := K) (de_var 4)) (blkOk_by (N := N_law) (sc := defScope s_law) (by decide +kernel)) (fun _ _ _ _ _ => pg_name (i := 13) sc_law.nd rfl (Or.inl rfl)) (fun _ _ _ _ _ => dts_nil) (fun _ _ _ _ _ => de_callB call_len (si_len rfl) (by rfl) T.len (by decide +kernel) (da_cons (de_var 13) da_nil))) da_nil)) (nomark _))))))))))))))))))))))), fun ds S q qx ⟨ns, hd, hl, h⟩ => ?_⟩
  subst hd
  walk_at "dl"
  refine ⟨ns, 0, rfl, hl, fun w S1 _ hw1 f1 => ?_⟩
  have lv0 : Lv S1 [w] := ⟨by simp, fun a ha => by rw [List.mem_singleton.mp ha]; obtain ⟨_, _, _, _, _, g, _⟩ := hw1; rw [g]; exact nofun⟩
  walk_at "dl"
  refine freshOf fun e he dxe => ?_
  refine ⟨e, dxe, rfl, put_same, fun p1 p2 p3 S2 h1 h2 h3 n12 n13 n23 e4 e5 e6 e7 fr2 => ⟨rfl, ?_⟩⟩
  have lvA : Lv (put S1 e (.ins CE dxe [])) [e, w] := lv0.add he (fun a h => put_live h) (by rw [put_same]; exact nofun)
  have kp2 : ∀ a, put S1 e (.ins CE dxe []) a ≠ none → S2 a ≠ none := fun a ha => by
    by_cases z : a = e
    · rw [z, e4]; exact nofun
    · rw [fr2 a (fun y => ha (by rw [y]; exact h1)) (fun y => ha (by rw [y]; exact h2)) (fun y => ha (by rw [y]; exact h3)) z]; exact ha
  have lv2 : Lv S2 [p3, p2, p1, e, w] := Lv.adds (ps := [p3, p2, p1]) lvA (by simp [n12.symm, n13.symm, n23.symm]) (fun p hp => by simp at hp; rcases hp with rfl | rfl | rfl <;> assumption) kp2 (fun p hp => by
    simp at hp
    rcases hp with rfl | rfl | rfl
    · rw [e7]; exact nofun
    · rw [e6]; exact nofun
    · rw [e5]; exact nofun)
  have g2 : ∀ {a : Addr}, S1 a ≠ none → S2 a = S1 a := fun {a} ha => by
    have z : a ≠ e := fun y => ha (by rw [y]; exact he)
    have hb : put S1 e (.ins CE dxe []) a ≠ none := put_live ha
    rw [fr2 a (fun y => hb (by rw [y]; exact h1)) (fun y => hb (by rw [y]; exact h2)) (fun y => hb (by rw [y]; exact h3)) z, put_ne z]
  have well_keep : ∀ {S S' : Sto}, Well S w → (∀ {a : Addr}, S a ≠ none → S' a = S a) → Well S' w := fun ⟨a, b, c, d, cs, g, r⟩ h => ⟨a, b, c, d, cs, by rw [h (by rw [g]; exact nofun)]; exact g, r⟩
  have hw2 := well_keep hw1 g2
  have q1e : p1 ≠ e := fun z => by rw [z, put_same] at h1; cases h1
  have q2e : p2 ≠ e := fun z => by rw [z, put_same] at h2; cases h2
  have q3e : p3 ≠ e := fun z => by rw [z, put_same] at h3; cases h3
  walk_at "dl"
  refine freshOf fun hl nh dx => ?_
  refine ⟨hl, dx, .ref e, rfl, put_same, fun th lf S3 t1 t2 t3 e1 e2 e3 fr3 => ⟨rfl, ?_⟩⟩
  have g3 : ∀ {a : Addr}, S2 a ≠ none → S3 a = S2 a := fun {a} ha => by
    have z : a ≠ hl := fun y => ha (by rw [y]; exact nh)
    have hb : put S2 hl (.ins CH dx []) a ≠ none := put_live ha
    rw [fr3 a (fun y => hb (by rw [y]; exact t1)) (fun y => hb (by rw [y]; exact t2)) z, put_ne z]
  have kp3 : ∀ a, put S2 hl (.ins CH dx []) a ≠ none → S3 a ≠ none := fun a ha => by
    by_cases z : a = hl
    · rw [z, e1]; exact nofun
    · rw [fr3 a (fun y => ha (by rw [y]; exact t1)) (fun y => ha (by rw [y]; exact t2)) z]; exact ha
  have lv3 : Lv S3 [lf, th, hl, p3, p2, p1, e, w] := Lv.adds (ps := [lf, th]) (Lv.add lv2 nh (fun a h => put_live h) (by rw [put_same]; exact nofun)) (by simp [t3.symm]) (fun p hp => by simp at hp; rcases hp with rfl | rfl <;> assumption) kp3 (fun p hp => by
    simp at hp
    rcases hp with rfl | rfl
    · rw [e3]; exact nofun
    · rw [e2]; exact nofun)
  have hw3 := well_keep hw2 g3
  have nhe : hl ≠ e := fun z => by rw [z, e4] at nh; cases nh
  have nte : th ≠ e := fun z => by have : put S2 hl (.ins CH dx []) e ≠ none := put_live (by rw [e4]; exact nofun); rw [z] at t1; exact this t1
  have nle : lf ≠ e := fun z => by have : put S2 hl (.ins CH dx []) e ≠ none := put_live (by rw [e4]; exact nofun); rw [z] at t2; exact this t2
  have e43 := (g3 (by rw [e4]; exact nofun)).trans e4
  walk_at "dl"
  refine needOf (methOf (x := .non) e43 rfl) ?_
  walk_at "dl"
  refine ⟨e, dxe, hl, _, _, _, _, rfl, e43, ?_⟩
  have hwe : w ≠ e := fun z => by have := hw2; obtain ⟨_, _, _, _, _, g, _⟩ := this; rw [z, e4] at g; cases g
  obtain ⟨R4, hwR⟩ := hrep0X (CT := CT) (CH := CH) (CE := CE) (dxe := dxe) (w := w) (S := put S3 e (.ins CE dxe (enFs (.ref hl) (.ref p1) (.ref p2) (.ref p3)))) (lv3.keep fun a h => put_live h) (by rw [put_ne nhe]; exact e1) (by rw [put_ne nte]; exact e2) (by rw [put_ne nle]; exact e3) put_same (by rw [put_ne q1e, g3 (by rw [e5]; exact nofun)]; exact e5) (by rw [put_ne q2e, g3 (by rw [e6]; exact nofun)]; exact e6) (by rw [put_ne q3e, g3 (by rw [e7]; exact nofun)]; exact e7)
  have hw4 : Well (put S3 e (.ins CE dxe (enFs (.ref hl) (.ref p1) (.ref p2) (.ref p3)))) w := by
    obtain ⟨a, b, c, d, cs, g, r⟩ := hw3
    exact ⟨a, b, c, d, cs, by rw [put_ne hwe]; exact g, r⟩
  generalize put S3 e (.ins CE dxe (enFs (.ref hl) (.ref p1) (.ref p2) (.ref p3))) = S4 at R4 hw4 ⊢
  have Q0 : Q9 CT CH CE dxe (H0X e p1 p2 p3 hl th lf dx) s0 w [] S4 := ⟨R4, hw4, hwR, List.nodup_nil, fun _ h => (by cases h), fun _ h => (by cases h), fun _ h => (by cases h)⟩
  have r0 : Rs 2000 s0 := ⟨s0_wf, s0_good, ⟨fun _ h => (by cases h), fun _ _ _ => rfl, fun n a b => absurd (show n ≤ 0 from b) (by omega)⟩, rfl, rfl, rfl, rfl, rfl, rfl, rfl, rfl, fun _ _ h => (by cases h), Nat.zero_le _, Nat.zero_le _, fun n a b => absurd (show n ≤ 0 from b) (by omega)⟩
  have hI0 : (⟨dxe, [], fun _ => [], 0⟩ : Ix).Ok := ⟨⟨fun _ _ => rfl, fun _ _ h => (by cases h)⟩, fun _ _ => rfl, fun _ _ h => (by cases h)⟩
  walk_at "dl"
  refine freshOf fun rg hrg => ?_
  have Q1 := Q0.new hrg (.lst [])
  walk_at "dl"
  refine freshOf fun fl hfl => ?_
  have Q2 := Q1.new hfl (.lst [])
  generalize put (put S4 rg (.lst [])) fl (.lst []) = S5 at Q2
  walk_at "dl"
  refine ⟨w, 8, rfl, Q2.wl, by decide, by decide, fun r1 S6 hr1 hw6 f6 => ?_⟩
  have Q3 := Q2.well hw6 f6
  walk_at "dl"
  refine ⟨w, 501, rfl, Q3.wl, by decide, by decide, fun r2 S7 hr2 hw7 f7 => ?_⟩
  have Q4 := Q3.well hw7 f7
  walk_at "dl"
  obtain ⟨gr, egr, hgr⟩ : ∃ gr : Nat, ((if decide ((r1 : Int) = 7) = true then 1 else 0) * (1000 + (r2 : Int)) : Int) = (gr : Int) ∧ gr ≤ 1500 := by
    by_cases y : (r1 : Int) = 7
    · exact ⟨1000 + r2, by rw [if_pos (decide_eq_true y)]; omega, by omega⟩
    · exact ⟨0, by rw [if_neg (by rw [decide_eq_false y]; exact nofun)]; omega, by omega⟩
  refine needOf (cmul_le (by split <;> omega) (by split <;> omega)) ?_
  rw [egr]
  refine ⟨w, 9, rfl, Q4.wl, by decide, by decide, fun r3 S8 hr3 hw8 f8 => ?_⟩
  have Q5 := Q4.well hw8 f8
  walk_at "dl"
  refine rngOf (by omega) (by omega) ?_
  refine forOf (fun i δ S' => ∃ H' s' rs fo z7, δ = [some (.scr (ns.map D.int)), some (.ref w), some (.ref e), some (.ref hl), some (.ref rg), some (.ref fl), some (.int (gr : Int)), z7, none, none, none, none, none, none, none] ∧ Q9 CT CH CE dxe H' s' w [(fl, .lst ((List.range i).map fun j => .bl (fo j))), (rg, .lst (rs.map (ringD H')))] S' ∧ Rs 2000 s' ∧ Bd i s' rs fo ∧ H'.a .hall = hl ∧ H'.a (.x 0) = e)
    ⟨_, s0, [], fun _ => false, _, rfl, Q5, r0, bd0, rfl, rfl⟩ ?_ ?_
  · rintro i d δ S9 hi ⟨H', s', rs, fo, z7, rfl, Q, r, B, eh, ee⟩
    obtain ⟨rfl, hin⟩ := rngD_get hi
    have hi8 : i ≤ 8 := by omega
    rw [show (0 : Int) + (i : Int) = ((i : Nat) : Int) by omega]
    have hrgm : (rg, O.lst (rs.map (ringD H'))) ∈ [(fl, O.lst ((List.range i).map fun j => D.bl (fo j))), (rg, O.lst (rs.map (ringD H')))] := by simp
    walk_at "dl"
    refine needOf (isLOf (Q.mem hrgm)) ?_
    walk_at "dl"
    refine ⟨w, 9, rfl, Q.wl, by decide, by decide, fun r4 S10 hr4 hw10 f10 => ?_⟩
    have Q := Q.well hw10 f10
    walk_at "dl"
    refine needOf (cmul_le (by omega) (by omega)) ?_
    obtain ⟨zz, ezz, hz1, hz2⟩ : ∃ zz : Nat, (1 + (r4 : Int) + (gr : Int) * (if decide ((i : Int) = 0) = true then 1 else 0) : Int) = (zz : Int) ∧ 1 ≤ zz ∧ (zz ≤ 9 ∨ (i = 0 ∧ zz ≤ 1509)) := by
      by_cases y : (i : Int) = 0
      · exact ⟨1 + r4 + gr, by rw [if_pos (decide_eq_true y)]; omega, by omega, .inr ⟨by omega, by omega⟩⟩
      · exact ⟨1 + r4, by rw [if_neg (by rw [decide_eq_false y]; exact nofun)]; omega, by omega, .inl (by omega)⟩
    have hm0 : i = 0 → s'.many = 0 := fun y => by
      have h1 := B.n
      rw [y] at h1
      have h2 := B.sum
      rw [List.length_eq_zero_iff.mp h1] at h2
      exact h2.symm
    have hmy := B.my
    show DL.ask (dRing CT CH CE) [D.ref w, D.ref hl, D.int (1 + (r4 : Int) + (gr : Int) * (if decide ((i : Int) = 0) = true then 1 else 0))] S10 _ ⟨⟩
    rw [ezz]
    refine ⟨dxe, 2000, zz, H', s', w, _, by rw [eh], Q, r, hz1, by omega, by omega, fun H2 s2 S11 l Q2 r2 RB hl27 hm => ?_⟩
    have hl1 := RB.zl
    have erl : rs.map (ringD H2) = rs.map (ringD H') := ringsD_congr hm fun i g h => B.I.rng i g h
    have hrl : (rs.map (ringD H')).length = i := by rw [List.length_map]; exact B.n
    have efl : ((List.range i).map fun j => D.bl (fo j)).length = i := by rw [List.length_map, List.length_range]
    have I2 : RgI s2 (rs ++ [⟨s'.many, l⟩]) fo := B.I.grow r.W (by omega) RB.many RB.old RB.c1 RB.c3 ⟨s'.many + zz, by omega, by omega, RB.c4⟩
    walk_at "dl"
    refine appOf (Q2.mem hrgm) (by rw [hrl]; omega) ?_
    have Q3 := (Q2.sub (own' := [(rg, O.lst (rs.map (ringD H'))), (fl, O.lst ((List.range i).map fun j => D.bl (fo j)))]) (by have := Q2.nd; simp at this ⊢; exact fun z => this z.symm) (by simp)).set (.lst (rs.map (ringD H') ++ [D.list ((List.range l).map fun j => .ref (H2.a (.t (s'.many + 1 + j))))]))
    have eapp : rs.map (ringD H') ++ [D.list ((List.range l).map fun j => .ref (H2.a (.t (s'.many + 1 + j))))] = (rs ++ [(⟨s'.many, l⟩ : Rg)]).map (ringD H2) := by rw [List.map_append, erl]; rfl
    rw [eapp] at Q3 ⊢
    generalize put S11 rg (.lst ((rs ++ [(⟨s'.many, l⟩ : Rg)]).map (ringD H2))) = S12 at Q3 ⊢
    have glast : (rs ++ [(⟨s'.many, l⟩ : Rg)])[i]? = some ⟨s'.many, l⟩ := by rw [← B.n, List.getElem?_append_right (Nat.le_refl _), Nat.sub_self]; rfl
    have hrl2 : ((rs ++ [(⟨s'.many, l⟩ : Rg)]).map (ringD H2))[i]? = some (ringD H2 ⟨s'.many, l⟩) := by rw [List.getElem?_map, glast]; rfl
    have eh2 : H2.a .hall = hl := hm.hall.trans eh
    walk_at "dl"
    refine needOf (methOf (x := .non) (by rw [← eh2]; exact hrep_hall Q3.h) rfl) ?_
    walk_at "dl"
    refine ixSeq (j := i) Q3.top hrl2 ?_
    walk_at "dl"
    refine ring_first (g := ⟨s'.many, l⟩) (by show 0 < l; omega) ?_
    walk_at "dl"
    refine ⟨_, hI0, H2, s2, .th (s'.many + 1), by rw [eh2]; rfl, Q3.h, ⟨by omega, by rw [RB.many]; omega⟩, fun S13 T1 => ?_⟩
    have Q4 := (Q3.step T1).ghost (s' := s2.up (s'.many + 1)) rfl rfl
    have r3 : Rs 2000 (s2.up (s'.many + 1)) := r2.up (by rw [RB.many]; omega) (by rw [RB.out, B.ol]; omega)
    have I3 : RgI (s2.up (s'.many + 1)) (rs ++ [⟨s'.many, l⟩]) fo := ⟨I2.pos, I2.cov, I2.rng, I2.ord, I2.i1, I2.i2, I2.i3, I2.i4, I2.fo0⟩
    have hout : ∀ (j : Nat) (g : Rg), (rs ++ [(⟨s'.many, l⟩ : Rg)])[j]? = some g → g.fst ∈ s2.outer ++ [s'.many + 1] := fun j g hj => by
      rw [RB.out]
      by_cases y : j < rs.length
      · rw [List.getElem?_append_left y] at hj
        exact List.mem_append_left _ (B.out j g hj)
      · rw [List.getElem?_append_right (by omega)] at hj
        have hj0 : j - rs.length = 0 := by
          have := (List.getElem?_eq_some_iff.mp hj).1
          simp at this
          omega
        rw [hj0] at hj
        cases hj
        exact List.mem_append_right _ (List.mem_singleton.mpr rfl)
    have holen : (s2.outer ++ [s'.many + 1]).length = i + 1 := by rw [List.length_append, RB.out, B.ol]; rfl
    have hsum : ((rs ++ [(⟨s'.many, l⟩ : Rg)]).map (·.l)).sum = s2.many := by rw [List.map_append, List.sum_append, B.sum, RB.many]; simp
    have hmy2 : s2.many ≤ 1550 + 40 * (i + 1) := by rw [RB.many]; rcases hz2 with h | ⟨h1, h2⟩; · omega
                                                    · have := hm0 h1; omega
    have hnl : (rs ++ [(⟨s'.many, l⟩ : Rg)]).length = i + 1 := by rw [List.length_append, B.n]; rfl
    have Q5 := Q4.sub (own' := [(fl, O.lst ((List.range i).map fun j => D.bl (fo j))), (rg, O.lst ((rs ++ [(⟨s'.many, l⟩ : Rg)]).map (ringD H2)))]) (by have := Q4.nd; simp at this ⊢; exact fun z => this z.symm) (by simp)
    walk_at "dl"
    refine needOf (isLOf Q5.top) ?_
    walk_at "dl"
    have Bd0 : ∀ {s3 : Hs} {fo' : Nat → Bool}, s3.outer = s2.outer ++ [s'.many + 1] → s3.many = s2.many → fo' 0 = false → RgI s3 (rs ++ [⟨s'.many, l⟩]) fo' → Bd (i + 1) s3 (rs ++ [⟨s'.many, l⟩]) fo' := fun {s3 fo'} e1 e2 e3 I => ⟨I, hnl, fun j g hj => by rw [e1]; exact hout j g hj, by rw [e1]; exact holen, by rw [e2]; exact hmy2, e3, by rw [e2]; exact hsum⟩
    have hfoi : fo i = false := B.I.fo0 i (Nat.le_of_eq B.n)
    have estep : (List.range (i + 1)).map (fun j => D.bl (fo j)) = (List.range i).map (fun j => D.bl (fo j)) ++ [D.bl false] := by rw [List.range_succ, List.map_append, ← hfoi]; rfl
    have gblast : ∀ b : Bool, ((List.range i).map (fun j => D.bl (fo j)) ++ [D.bl b])[i]? = some (.bl b) := fun b => by rw [List.getElem?_append_right (by rw [efl]; exact Nat.le_refl _), efl, Nat.sub_self]; rfl
    refine br (fun hb => ?_) (fun hb => ?_)
    · have hi1 : 1 ≤ i := by have := of_decide_eq_true hb; omega
      walk_at "dl"
      refine ⟨w, 3, rfl, Q5.wl, by decide, by decide, fun r5 S14 hr5 hw14 f14 => ?_⟩
      have Q6 := Q5.well hw14 f14
      walk_at "dl"
      refine appOf Q6.top (by rw [efl]; omega) ?_
      generalize hbv : decide ((r5 : Int) = 0) = b
      have Q7 := Q6.set (.lst ((List.range i).map (fun j => D.bl (fo j)) ++ [D.bl b]))
      generalize put S14 fl (.lst ((List.range i).map (fun j => D.bl (fo j)) ++ [D.bl b])) = S15 at Q7 ⊢
      walk_at "dl"
      refine ixSeq (j := i) Q7.top (gblast b) ?_
      walk_at "dl"
      refine br (fun hb2 => ?_) (fun hb2 => ?_)
      · subst hb2
        obtain ⟨qi, rfl⟩ : ∃ qi, i = qi + 1 := ⟨i - 1, by omega⟩
        have hqn : qi < rs.length := by rw [B.n]; omega
        have gq0 := List.getElem?_eq_getElem hqn
        generalize rs[qi] = gq at gq0
        have gqe : (rs ++ [(⟨s'.many, l⟩ : Rg)])[qi]? = some gq := by rw [List.getElem?_append_left hqn]; exact gq0
        have hgp := I3.pos qi gq gqe
        have hgr := I3.rng qi gq gqe
        have hnr := I3.noRing gqe hfoi
        have hrlq : ((rs ++ [(⟨s'.many, l⟩ : Rg)]).map (ringD H2))[qi]? = some (ringD H2 gq) := by rw [List.getElem?_map, gqe]; rfl
        have h1g : gq.fst = gq.a + 1 := rfl
        have hm2 : (s2.up (s'.many + 1)).many = s2.many := rfl
        walk_at "dl"
        refine needOf (methOf (x := .non) (by rw [← eh2]; exact hrep_hall Q7.h) rfl) ?_
        walk_at "dl"
        rw [show (((qi + 1 : Nat) : Int) - 1 : Int) = ((qi : Nat) : Int) by omega]
        refine ixSeq (j := qi) (Q7.mem (by simp)) hrlq ?_
        walk_at "dl"
        refine ring_first hgp ?_
        walk_at "dl"
        refine ixSeq (j := qi + 1) (Q7.mem (by simp)) hrl2 ?_
        walk_at "dl"
        refine ring_first (g := ⟨s'.many, l⟩) (by show 0 < l; omega) ?_
        walk_at "dl"
        refine ⟨_, hI0, H2, _, gq.fst, .str "ring", kRing, .th (s'.many + 1), _, by rw [eh2]; rfl, Q7.h, r3.W, by omega, by omega, rfl, k6_any (by simp [K6, kRing]), ⟨by omega, by rw [hm2, RB.many]; omega⟩, r3.len _, r3.put_l hnr _, fun H3 S16 T2 => ?_⟩
        have Q8 := Q7.step T2
        have hm3 : Hm s2.many H2 H3 := ⟨T2.hall, HTr.x0 T2, fun n a b => T2.t a b⟩
        have er3 : (rs ++ [(⟨s'.many, l⟩ : Rg)]).map (ringD H2) = (rs ++ [(⟨s'.many, l⟩ : Rg)]).map (ringD H3) := (ringsD_congr hm3 fun i g h => I2.rng i g h).symm
        have ef3 : (List.range (qi + 1)).map (fun j => D.bl (fo j)) ++ [D.bl true] = (List.range (qi + 1 + 1)).map fun j => D.bl (decide (j = qi + 1) || fo j) := by
          rw [List.range_succ (n := qi + 1), List.map_append]
          congr 1
          · refine List.map_congr_left fun j hj => ?_
            have := List.mem_range.mp hj
            rw [decide_eq_false (by omega), Bool.false_or]
          · simp
        rw [er3, ef3] at Q8
        refine ⟨H3, _, _, _, _, rfl, Q8, r3.put (by omega) (by omega) (by omega) (by rw [hm2, RB.many]; omega) (by simp [K6, kRing]) hnr, Bd0 rfl rfl ?_ (I3.link hnl gqe glast hfoi (by show fset _ _ (gput _ _ _) = _; rw [gput_new hnr]; rfl) rfl), T2.hall.trans eh2, (HTr.x0 T2).trans (hm.x0.trans ee)⟩
        show (decide (0 = qi + 1) || fo 0) = false
        rw [B.f0, decide_eq_false (by omega)]
        rfl
      · subst hb2
        walk_at "dl"
        rw [← estep] at Q7
        exact ⟨H2, _, _, fo, _, rfl, Q7, r3, Bd0 rfl rfl B.f0 I3, eh2, hm.x0.trans ee⟩
    · walk_at "dl"
      refine appOf Q5.top (by rw [efl]; omega) ?_
      have Q7 := Q5.set (.lst ((List.range i).map (fun j => D.bl (fo j)) ++ [D.bl false]))
      generalize put S13 fl (.lst ((List.range i).map (fun j => D.bl (fo j)) ++ [D.bl false])) = S15 at Q7 ⊢
      walk_at "dl"
      refine ixSeq (j := i) Q7.top (gblast false) ?_
      walk_at "dl"
      rw [← estep] at Q7
      exact ⟨H2, _, _, fo, _, rfl, Q7, r3, Bd0 rfl rfl B.f0 I3, eh2, hm.x0.trans ee⟩
  rintro δ S9 ⟨H', s', rs, fo, z7, rfl, Q, r, B, eh, ee⟩
  rw [rngD_len] at Q B
  obtain ⟨n, en, hn9, hn1⟩ : ∃ n : Nat, (1 + (r3 : Int)).toNat = n ∧ n ≤ 9 ∧ 1 ≤ n := ⟨1 + r3, by omega, by omega, by omega⟩
  rw [en] at Q B
  clear Q0 Q1 Q2 Q3 Q4 Q5 r0
  have hmy := B.my
  generalize hRL : rs.map (ringD H') = RL at Q
  have hRLn : RL.length = n := by rw [← hRL, List.length_map]; exact B.n
  have hRLg : ∀ {i : Nat} {g : Rg}, rs[i]? = some g → RL[i]? = some (ringD H' g) := fun {i g} h => by rw [← hRL, List.getElem?_map, h]; rfl
  have hrsg : ∀ {i : Nat}, i < n → ∃ g : Rg, rs[i]? = some g := fun {i} h => ⟨_, List.getElem?_eq_getElem (by rw [B.n]; exact h)⟩
  walk_at "dl"
  have hrgm : ∀ {x : O}, (rg, O.lst RL) ∈ [(fl, x), (rg, O.lst RL)] := fun {x} => by simp
  refine slOf (Q.mem hrgm) ?_
  refine lcSOfS (fun i acc S' => ∃ kp : Nat → Bool, acc = (List.range i).map (fun j => D.bl (kp j)) ∧ Q9 CT CH CE dxe H' s' w [(fl, .lst ((List.range n).map fun j => .bl (fo j))), (rg, .lst RL)] S') (by rw [hRLn]; omega) ⟨fun _ => false, rfl, Q⟩ (fun p i acc S' hp ⟨kp, _, Q'⟩ => (Q'.fresh hp _).mem hrgm) ?_ ?_
  · rintro pl hpl i d acc S3 hi hpl3 ⟨kp, rfl, Q'⟩
    have Qn := Q'.new hpl3 (.lst ((List.range i).map fun j => D.bl (kp j)))
    walk_at "dl"
    refine ⟨w, 3, rfl, Qn.wl, by decide, by decide, fun r6 S14 hr6 hw14 f14 => ?_⟩
    have Q2 := Qn.well hw14 f14
    walk_at "dl"
    refine ⟨DL.del S14 pl, DL.del_same, put_del Q2.top, fun j => if j = i then decide ((r6 : Int) = 0) else kp j, ?_, Q2.del⟩
    rw [List.range_succ, List.map_append]
    congr 1
    · refine List.map_congr_left fun j hj => ?_
      have := List.mem_range.mp hj
      show _ = D.bl (if j = i then decide ((r6 : Int) = 0) else kp j)
      rw [if_neg (by omega)]
    · simp
  rintro acc S10 ⟨kp, rfl, Q1⟩
  rw [hRLn]
  clear Q
  have hkp : ∀ {i : Nat}, i < n → ((List.range n).map fun j => D.bl (kp j))[i]? = some (.bl (kp i)) := fun {i} h => by rw [List.getElem?_map, List.getElem?_range h]; rfl
  generalize hKL : ((List.range n).map fun j => D.bl (kp j)) = KL at hkp ⊢
  walk_at "dl"
  refine lenRf (Q1.mem hrgm) ?_
  rw [hRLn]
  walk_at "dl"
  refine rngOf (by omega) (by omega) ?_
  refine forOf (fun i δ S' => ∃ H2 s2 z7, δ = [some (.scr (ns.map D.int)), some (.ref w), some (.ref e), some (.ref hl), some (.ref rg), some (.ref fl), some (.int (gr : Int)), z7, some (.list KL), none, none, none, none, none, none] ∧ Q9 CT CH CE dxe H2 s2 w [(fl, .lst ((List.range n).map fun j => .bl (fo j))), (rg, .lst RL)] S' ∧ Rs 2000 s2 ∧ s2.parts = s'.parts ∧ s2.many = s'.many ∧ Hm s'.many H' H2 ∧ ∀ (j : Nat) (g : Rg), rs[j]? = some g → (i ≤ j ∨ kp j = true) → g.fst ∈ s2.outer)
    ⟨H', s', _, rfl, Q1, r, rfl, rfl, Hm.refl, fun j g hj _ => B.out j g hj⟩ ?_ ?_
  · rintro i d δ S11 hi ⟨H2, s2, z8, rfl, Q2, r2, ep, em, hm2, ho⟩
    obtain ⟨rfl, hin⟩ := rngD_get hi
    have hin' : i < n := by omega
    rw [show (0 : Int) + (i : Int) = ((i : Nat) : Int) by omega]
    obtain ⟨g, hg⟩ := hrsg hin'
    have I2 := B.I.congr ep em
    walk_at "dl"
    refine ixAt (.inl rfl) (hkp hin') ?_
    walk_at "dl"
    cases hk : kp i with
    | true =>
      walk_at "dl"
      exact ⟨H2, s2, _, rfl, Q2, r2, ep, em, hm2, fun j g hj hh => ho j g hj (hh.elim (fun y => .inl (by omega)) .inr)⟩
    | false =>
      have hgp := I2.pos i g hg
      have hgr := I2.rng i g hg
      have h1g : g.fst = g.a + 1 := rfl
      have hgo := ho i g hg (.inl (Nat.le_refl _))
      have eh2 : H2.a .hall = hl := hm2.hall.trans eh
      have ert : D.ref (H'.a (.t g.fst)) = D.ref (H2.a (.t g.fst)) := by rw [hm2.t _ (by omega) (by omega)]
      walk_at "dl"
      refine needOf (methOf (x := .non) (by rw [← eh2]; exact hrep_hall Q2.h) rfl) ?_
      walk_at "dl"
      refine ixSeq (j := i) (Q2.mem hrgm) (hRLg hg) ?_
      walk_at "dl"
      refine ring_first hgp ?_
      walk_at "dl"
      have r3 := r2.down hgo
      have Q3 := Q2.ghost (s' := { s2 with outer := s2.outer.erase g.fst }) rfl rfl
      have hkeep : ((({ s2 with outer := s2.outer.erase g.fst } : Hs).dec g.fst)).enqs g.fst = false := by
        cases hz : (({ s2 with outer := s2.outer.erase g.fst } : Hs).dec g.fst).enqs g.fst with
        | false => rfl
        | true =>
          obtain ⟨z1, _, _⟩ := enqs_iff.mp hz
          obtain ⟨m, m1, m2⟩ := I2.i4 i g hg
          obtain ⟨kv, hkv, ekv⟩ := List.mem_map.mp m2
          exact absurd z1 (cnt_held (s := s2.down g.fst) r3.G (r2.all m (by have := m1.1; omega) (by have := m1.2; omega)) hkv ekv)
      refine ⟨_, hI0, H2, _, .th g.fst, s2.down g.fst, by rw [eh2, ert]; rfl, Q3.h, r2.W.ghost, ⟨by omega, by show g.fst ≤ s2.many; omega⟩, .kept hkeep, fun H3 S12 T1 => ?_⟩
      refine ⟨H3, s2.down g.fst, _, rfl, Q3.step T1, r3, ep, em, hm2.trans (m2 := s2.many) ⟨T1.hall, HTr.x0 T1, fun n a b => T1.t a b⟩ (by omega), fun j g2 hj hh => ?_⟩
      have hji : j ≠ i := fun y => by
        subst y
        rcases hh with hh | hh
        · omega
        · rw [hk] at hh; cases hh
      refine (List.mem_erase_of_ne fun y => hji ?_).mpr (ho j g2 hj (hh.elim (fun y => .inl (by omega)) .inr))
      have h2p := I2.pos j g2 hj
      exact (I2.uniq hj hg (Rg.one h2p) (by rw [y]; exact Rg.one hgp)).1
  rintro δ S11 ⟨H2, s2, z8, rfl, Q2, r2, ep, em, hm2, ho⟩
  rw [rngD_len, show ((n : Int)).toNat = n by omega] at ho
  have I2 := B.I.congr ep em
  have eh2 : H2.a .hall = hl := hm2.hall.trans eh
  have ee2 : H2.a (.x 0) = e := hm2.x0.trans ee
  have hrt : ∀ {j : Nat} {g : Rg}, rs[j]? = some g → ringD H' g = ringD H2 g := fun {j g} h => (ringD_congr hm2 (B.I.rng j g h)).symm
  have hRLg : ∀ {i : Nat} {g : Rg}, rs[i]? = some g → RL[i]? = some (ringD H2 g) := fun {i g} h => by rw [hRLg h, hrt h]
  walk_at "dl"
  refine needOf (methOf (x := .non) (by rw [← eh2]; exact hrep_hall Q2.h) rfl) ?_
  walk_at "dl"
  refine ⟨_, hI0, H2, s2, by rw [eh2], Q2.h, ?_⟩
  rw [r2.left]
  walk_at "dl"
  refine neASame (p' := .list []) rfl rfl rfl (by decide) ?_
  walk_at "dl"
  refine needOf (methOf (x := .non) (by rw [← ee2]; exact en_e Q2.h) rfl) ?_
  walk_at "dl"
  refine ⟨_, hI0, H2, s2, by rw [ee2], Q2.h, fun p3 hp3 => ?_⟩
  rw [r2.asked]
  have Q3 := Q2.fresh hp3 (.lst (nD []))
  have hp33 : put S11 p3 (.lst (nD [])) p3 = some (.lst (nD [])) := put_same
  generalize put S11 p3 (.lst (nD [])) = S12 at Q3 hp33 ⊢
  walk_at "dl"
  refine neASame (p' := .list []) (by simp only [res, hp33]; rfl) rfl rfl (by decide) ?_
  walk_at "dl"
  refine freshOf fun sy hsy => ?_
  have Q4 := Q3.new hsy (.lst [])
  generalize put S12 sy (.lst []) = S13 at Q4 ⊢
  have hrg3 : ∀ {x y : O}, (rg, O.lst RL) ∈ [(sy, x), (fl, y), (rg, O.lst RL)] := fun {x y} => by simp
  have hfl3 : ∀ {x y z : O}, (fl, y) ∈ [(sy, x), (fl, y), (rg, z)] := fun {x y z} => by simp
  have hflg : ∀ {i : Nat}, i < n → ((List.range n).map fun j => D.bl (fo j))[i]? = some (.bl (fo i)) := fun {i} h => by rw [List.getElem?_map, List.getElem?_range h]; rfl
  walk_at "dl"
  refine lenRf (Q4.mem hrg3) ?_
  rw [hRLn]
  walk_at "dl"
  refine rngOf (by omega) (by omega) ?_
  refine forOf (fun i δ S' => ∃ z7, δ = [some (.scr (ns.map D.int)), some (.ref w), some (.ref e), some (.ref hl), some (.ref rg), some (.ref fl), some (.int (gr : Int)), z7, some (.list KL), some (.ref sy), none, none, none, none, none] ∧ Q9 CT CH CE dxe H2 s2 w [(sy, .lst ((List.range i).map fun j => .bl (st kp fo j))), (fl, .lst ((List.range n).map fun j => .bl (fo j))), (rg, .lst RL)] S')
    ⟨_, rfl, Q4⟩ ?_ ?_
  · clear Q4
    rintro i d δ S14 hi ⟨z9, rfl, Q4⟩
    obtain ⟨rfl, hin⟩ := rngD_get hi
    have hin' : i < n := by omega
    have hsl : ((List.range i).map fun j => D.bl (st kp fo j)).length = i := by rw [List.length_map, List.length_range]
    rw [show (0 : Int) + (i : Int) = ((i : Nat) : Int) by omega]
    walk_at "dl"
    refine needOf (isLOf Q4.top) ?_
    walk_at "dl"
    refine ixAt (.inl rfl) (hkp hin') ?_
    walk_at "dl"
    cases hk : kp i with
    | true =>
      walk_at "dl"
      refine appOf Q4.top (by rw [hsl]; omega) ?_
      exact ⟨_, rfl, stay_fin (by cases i with | zero => exact hk | succ i => show (kp (i + 1) || _) = true; rw [hk]; rfl) Q4⟩
    | false =>
      walk_at "dl"
      refine br (fun hb => ?_) (fun hb => ?_)
      · obtain ⟨qi, rfl⟩ : ∃ qi, i = qi + 1 := ⟨i - 1, by have := of_decide_eq_true hb; omega⟩
        walk_at "dl"
        refine ixSeq (j := qi + 1) (Q4.mem hfl3) (hflg hin') ?_
        walk_at "dl"
        cases hf : fo (qi + 1) with
        | false =>
          walk_at "dl"
          refine appOf Q4.top (by rw [hsl]; omega) ?_
          exact ⟨_, rfl, stay_fin (by show (kp (qi + 1) || (fo (qi + 1) && _)) = false; rw [hk, hf]; rfl) Q4⟩
        | true =>
          walk_at "dl"
          rw [show (((qi + 1 : Nat) : Int) - 1 : Int) = ((qi : Nat) : Int) by omega]
          refine ixSeq (j := qi) Q4.top (d := .bl (st kp fo qi)) (by rw [List.getElem?_map, List.getElem?_range (Nat.lt_succ_self qi)]; rfl) ?_
          refine appOf Q4.top (by rw [hsl]; omega) ?_
          exact ⟨_, rfl, stay_fin (by show (kp (qi + 1) || (fo (qi + 1) && _)) = _; rw [hk, hf]; rfl) Q4⟩
      · have h0 : i = 0 := by have := of_decide_eq_false hb; omega
        subst h0
        walk_at "dl"
        refine appOf Q4.top (by rw [hsl]; omega) ?_
        exact ⟨_, rfl, stay_fin hk Q4⟩
  clear Q4
  rintro δ S14 ⟨z9, rfl, Q4⟩
  rw [rngD_len, show ((n : Int)).toNat = n by omega] at Q4
  have hsyg : ∀ {i : Nat}, i < n → ((List.range n).map fun j => D.bl (st kp fo j))[i]? = some (.bl (st kp fo i)) := fun {i} h => by rw [List.getElem?_map, List.getElem?_range h]; rfl
  generalize hSL : ((List.range n).map fun j => D.bl (st kp fo j)) = SL at hsyg Q4
  generalize hFL : ((List.range n).map fun j => D.bl (fo j)) = FL at hflg Q4
  walk_at "dl"
  refine freshOf fun du hdu => ?_
  have Q5 := Q4.new hdu (.lst (nD (dueN rs (st kp fo) 0)))
  have e0 : put S14 du (.lst (nD (dueN rs (st kp fo) 0))) = put S14 du (.lst []) := rfl
  rw [e0] at Q5
  generalize put S14 du (.lst []) = S15 at Q5 ⊢
  have hrg4 : ∀ {x y z : O}, (rg, O.lst RL) ∈ [(du, z), (sy, x), (fl, y), (rg, O.lst RL)] := fun {x y z} => by simp
  have hsy4 : ∀ {x y z u : O}, (sy, x) ∈ [(du, z), (sy, x), (fl, y), (rg, u)] := fun {x y z u} => by simp
  have hdul : ∀ i, (dueN rs (st kp fo) i).length ≤ s2.many := fun i => perm_len (List.nodup_iff_pairwise_ne.mpr ((due_srt I2 i).imp fun h => Nat.ne_of_lt h)) fun x hx => by
    obtain ⟨j, g, _, h2, h3, _⟩ := due_mem.mp hx
    have := I2.rng j g h2
    have := h3.1
    have := h3.2
    omega
  have hm1850 : s2.many ≤ 1950 := by omega
  walk_at "dl"
  refine lenRf (Q5.mem hrg4) ?_
  rw [hRLn]
  walk_at "dl"
  refine rngOf (by omega) (by omega) ?_
  refine forOf (fun i δ S' => ∃ z7, δ = [some (.scr (ns.map D.int)), some (.ref w), some (.ref e), some (.ref hl), some (.ref rg), some (.ref fl), some (.int (gr : Int)), z7, some (.list KL), some (.ref sy), some (.ref du), none, none, none, none] ∧ Q9 CT CH CE dxe H2 s2 w [(du, .lst (nD (dueN rs (st kp fo) i))), (sy, .lst SL), (fl, .lst FL), (rg, .lst RL)] S')
    ⟨_, rfl, Q5⟩ ?_ ?_
  · clear Q5
    rintro i d δ S16 hi ⟨z9, rfl, Q5⟩
    obtain ⟨rfl, hin⟩ := rngD_get hi
    have hin' : i < n := by omega
    obtain ⟨g, hg⟩ := hrsg hin'
    have hgp := I2.pos i g hg
    have hgr := I2.rng i g hg
    rw [show (0 : Int) + (i : Int) = ((i : Nat) : Int) by omega]
    walk_at "dl"
    refine ixSeq (j := i) (Q5.mem hsy4) (hsyg hin') ?_
    walk_at "dl"
    have edue : dueN rs (st kp fo) (i + 1) = dueN rs (st kp fo) i ++ (if st kp fo i = true then [] else g.nums) := by show _ ++ _ = _; rw [hg]
    cases hs : st kp fo i with
    | true =>
      walk_at "dl"
      refine ⟨_, rfl, ?_⟩
      rw [edue, hs, if_pos rfl, List.append_nil]
      exact Q5
    | false =>
      walk_at "dl"
      refine needOf (isLOf Q5.top) ?_
      walk_at "dl"
      refine ixSeq (j := i) (Q5.mem hrg4) (d := .list ((List.range g.l).map fun j => .ref (H2.a (.t (g.a + 1 + j))))) (hRLg hg) ?_
      walk_at "dl"
      refine lcOf (fun t acc => acc = nD (g.nums.take t)) (by rw [List.length_map, List.length_range]; omega) rfl ?_ ?_
      · rintro p' hp' t d acc ht rfl
        rw [List.getElem?_map] at ht
        obtain ⟨t', ht', rfl⟩ := Option.map_eq_some_iff.mp ht
        obtain ⟨htl, rfl⟩ := List.getElem?_range_some ht'
        have Qh := Q5.fresh hp' (.lst (nD (g.nums.take t)))
        walk_at "dl"
        refine fldOf (hrep_t Qh.h (n := g.a + 1 + t) (by omega) (by omega)) th_number ?_
        walk_at "dl"
        refine LcO.of hp' ?_
        unfold Rg.nums
        rw [List.take_add_one, List.getElem?_map, List.getElem?_range htl]
        unfold nD
        rw [List.map_append]
        rfl
      rintro acc rfl
      rw [List.length_map, List.length_range, show g.nums.take g.l = g.nums from List.take_of_length_le (by unfold Rg.nums; rw [List.length_map, List.length_range]; exact Nat.le_refl _)]
      walk_at "dl"
      have hdl := hdul i
      have hnl : g.nums.length = g.l := by unfold Rg.nums; rw [List.length_map, List.length_range]
      refine extOf Q5.top (by rw [nD_len, nD_len]; omega) ?_
      walk_at "dl"
      have Q6 := Q5.set (.lst (nD (dueN rs (st kp fo) i) ++ nD g.nums))
      refine ⟨_, rfl, ?_⟩
      rw [edue, hs, if_neg nofun, show nD (dueN rs (st kp fo) i ++ g.nums) = nD (dueN rs (st kp fo) i) ++ nD g.nums by unfold nD; rw [List.map_append]]
      exact Q6
  clear Q5
  rintro δ S16 ⟨z9, rfl, Q5⟩
  rw [rngD_len, show ((n : Int)).toNat = n by omega] at Q5
  have hdl := hdul n
  have hds := due_srt (sy := st kp fo) I2 n
  have hdm : ∀ x, x ∈ dueN rs (st kp fo) n ↔ ∃ (j : Nat) (g : Rg), rs[j]? = some g ∧ g.has x ∧ st kp fo j = false := fun x => due_mem.trans ⟨fun ⟨j, g, _, h⟩ => ⟨j, g, h⟩, fun ⟨j, g, h⟩ => ⟨j, g, by rw [← B.n]; exact (List.getElem?_eq_some_iff.mp h.1).1, h⟩⟩
  generalize dueN rs (st kp fo) n = due at hdl hds hdm Q5
  walk_at "dl"
  have hdz : (due.map fun n : Nat => (n : Int)).Pairwise (· ≤ ·) := by
    rw [List.pairwise_map]
    exact hds.imp fun h => by omega
  refine ⟨due.map fun n : Nat => (n : Int), by show S16 du = _; rw [Q5.top, nD_ints], fun _ => nofun, fun ms mpm mpw => ?_⟩
  have ems : ms = due.map fun n : Nat => (n : Int) := sorted_eq mpm mpw hdz
  subst ems
  rw [← nD_ints]
  have Q6 := Q5.drop
  clear Q5
  walk_at "dl"
  have hcsg : ∀ {i : Nat} {g : Rg}, rs[i]? = some g → cntL rs s2 i = (List.range g.l).map fun t => D.int (s2.cnt (g.a + 1 + t)) := fun {i g} h => by unfold cntL; rw [h]
  refine slOf (Q6.mem hrg3) ?_
  refine lcSOfS (fun i acc S' => ∃ Pp : Nat → Addr, acc = (List.range i).map (fun j => D.ref (Pp j)) ∧ Q9 CT CH CE dxe H2 s2 w ((List.range i).map (fun j => (Pp j, O.lst (cntL rs s2 j))) ++ [(sy, .lst SL), (fl, .lst FL), (rg, .lst RL)]) S') (by rw [hRLn]; omega) ⟨fun _ => w, rfl, Q6⟩ (fun p i acc S' hp ⟨Pp, _, Q'⟩ => (Q'.fresh hp _).mem (by simp)) ?_ ?_
  · rintro pl hpl i d acc S3 hi hpl3 ⟨Pp, rfl, Q'⟩
    have hin' : i < n := by have := (List.getElem?_eq_some_iff.mp hi).1; omega
    obtain ⟨g, hg⟩ := hrsg hin'
    have hgr := I2.rng i g hg
    rw [hRLg hg] at hi
    cases hi
    have Qn := Q'.new hpl3 (.lst ((List.range i).map fun j => D.ref (Pp j)))
    show gcN _ (.list ((List.range g.l).map fun j => .ref (H2.a (.t (g.a + 1 + j))))) _ _
    walk_at "dl"
    refine lcNOf (fun t acc => acc = (cntL rs s2 i).take t) (by rw [List.length_map, List.length_range]; omega) rfl ?_ ?_
    · rintro p' hp' t d acc ht rfl
      rw [List.getElem?_map] at ht
      obtain ⟨t', ht', rfl⟩ := Option.map_eq_some_iff.mp ht
      obtain ⟨htl, rfl⟩ := List.getElem?_range_some ht'
      have Qh := Qn.fresh hp' (.lst ((cntL rs s2 i).take t))
      walk_at "dl"
      refine fldOf (hrep_t Qh.h (n := g.a + 1 + t) (by omega) (by omega)) th_count ?_
      walk_at "dl"
      refine LcO.of hp' ?_
      rw [hcsg hg, List.take_add_one, List.getElem?_map, List.getElem?_range htl]
      rfl
    · rintro acc p hp rfl
      have npl : p ≠ pl := fun z => by rw [z, put_same] at hp; cases hp
      rw [put_ne npl] at hp
      rw [List.length_map, List.length_range, show (cntL rs s2 i).take g.l = cntL rs s2 i from List.take_of_length_le (by rw [hcsg hg, List.length_map, List.length_range]; exact Nat.le_refl _)]
      have Qx := Q'.new hp (.lst (cntL rs s2 i))
      refine ⟨put S3 p (.lst (cntL rs s2 i)), by rw [put_ne (Ne.symm npl)]; exact hpl3, put_comm (Ne.symm npl), fun j => if j = i then p else Pp j, ?_, ?_⟩
      · rw [List.range_succ, List.map_append]
        congr 1
        · refine List.map_congr_left fun j hj => ?_
          have := List.mem_range.mp hj
          show _ = D.ref (if j = i then p else Pp j)
          rw [if_neg (by omega)]
        · show _ = [D.ref (if i = i then p else Pp i)]
          rw [if_pos rfl]
      · have eown : (List.range (i + 1)).map (fun j => ((if j = i then p else Pp j), O.lst (cntL rs s2 j))) = (List.range i).map (fun j => (Pp j, O.lst (cntL rs s2 j))) ++ [(p, O.lst (cntL rs s2 i))] := by
          rw [List.range_succ, List.map_append]
          congr 1
          · refine List.map_congr_left fun j hj => ?_
            have := List.mem_range.mp hj
            rw [if_neg (by omega)]
          · show [((if i = i then p else Pp i), _)] = _
            rw [if_pos rfl]
        rw [eown]
        have pm : ((List.range i).map (fun j => (Pp j, O.lst (cntL rs s2 j))) ++ [(p, O.lst (cntL rs s2 i))] ++ [(sy, O.lst SL), (fl, O.lst FL), (rg, O.lst RL)]).Perm ((p, O.lst (cntL rs s2 i)) :: ((List.range i).map (fun j => (Pp j, O.lst (cntL rs s2 j))) ++ [(sy, O.lst SL), (fl, O.lst FL), (rg, O.lst RL)])) := by
          rw [List.append_assoc]
          exact List.perm_middle
        exact Qx.sub ((pm.map _).nodup_iff.mpr Qx.nd) fun x hx => pm.mem_iff.mp hx
  clear Q6
  rintro acc S17 ⟨Pp, rfl, Q6⟩
  rw [hRLn] at Q6 ⊢
  have hcl : ∀ {i : Nat}, i < n → ((List.range n).map fun j => D.ref (Pp j))[i]? = some (.ref (Pp i)) := fun {i} h => by rw [List.getElem?_map, List.getElem?_range h]; rfl
  generalize hCL : ((List.range n).map fun j => D.ref (Pp j)) = CL at hcl ⊢
  have hrg5 : ∀ {l : List (Addr × O)} {x y : O}, (rg, O.lst RL) ∈ l ++ [(sy, x), (fl, y), (rg, O.lst RL)] := fun {l x y} => by simp
  have hfst : ∀ {i : Nat} {g : Rg}, rs[i]? = some g → fstOf rs i = g.fst := fun {i g} h => by unfold fstOf; rw [h]
  walk_at "dl"
  refine lenRf (Q6.mem hrg5) ?_
  rw [hRLn]
  walk_at "dl"
  refine rngOf (by omega) (by omega) ?_
  refine lcOf (fun i acc => acc = ((List.range i).filter kp).map fun j => D.ref (H2.a (.t (fstOf rs j)))) (by rw [rngD_len]; omega) rfl ?_ ?_
  · rintro pl hpl i d acc hi rfl
    obtain ⟨rfl, hin⟩ := rngD_get hi
    have hin' : i < n := by omega
    obtain ⟨g, hg⟩ := hrsg hin'
    have Qh := Q6.fresh hpl (.lst (((List.range i).filter kp).map fun j => D.ref (H2.a (.t (fstOf rs j)))))
    have efl : (List.range (i + 1)).filter kp = (List.range i).filter kp ++ if kp i = true then [i] else [] := by
      rw [List.range_succ, List.filter_append]
      congr 1
      rw [List.filter_cons, List.filter_nil]
    rw [show (0 : Int) + (i : Int) = ((i : Nat) : Int) by omega]
    walk_at "dl"
    refine ixAt (.inl rfl) (hkp hin') ?_
    walk_at "dl"
    cases hk : kp i with
    | true =>
      walk_at "dl"
      refine ixSeq (j := i) (Qh.mem hrg5) (hRLg hg) ?_
      walk_at "dl"
      refine ring_first (I2.pos i g hg) ?_
      refine LcO.of hpl ?_
      rw [efl, hk, if_pos rfl, List.map_append]
      show _ = _ ++ [D.ref (H2.a (.t (fstOf rs i)))]
      rw [hfst hg]
    | false =>
      walk_at "dl"
      refine LcO.of hpl ?_
      rw [efl, hk, if_neg nofun, List.append_nil]
  rintro acc rfl
  rw [rngD_len, show ((n : Int)).toNat = n by omega]
  walk_at "dl"
  refine freshOf fun ar n1 dxa => ?_
  have hmil : (((List.range n).filter kp).map fun j => D.ref (H2.a (.t (fstOf rs j)))).length ≤ 9 := by rw [List.length_map]; exact Nat.le_trans (List.length_filter_le ..) (by rw [List.length_range]; exact hn9)
  refine ⟨ar, dxa, ((List.range n).filter kp).map fun j => D.ref (H2.a (.t (fstOf rs j))), rfl, by omega, put_same, fun la n2 => ⟨rfl, ?_⟩⟩
  have nla : la ≠ ar := fun z => by rw [z, put_same] at n2; cases n2
  have Q7 := (((Q6.new n1 (.ins CD dxa [])).new n2 (.lst (((List.range n).filter kp).map fun j => D.ref (H2.a (.t (fstOf rs j)))))).sub (own' := (ar, .ins CD dxa []) :: (la, .lst (((List.range n).filter kp).map fun j => D.ref (H2.a (.t (fstOf rs j))))) :: ((List.range n).map (fun j => (Pp j, O.lst (cntL rs s2 j))) ++ [(sy, .lst SL), (fl, .lst FL), (rg, .lst RL)])) (by
    have nd := ((Q6.new n1 (.ins CD dxa [])).new n2 (.lst (((List.range n).filter kp).map fun j => D.ref (H2.a (.t (fstOf rs j)))))).nd
    exact ((List.Perm.swap _ _ _).map _).nodup_iff.mp nd) (fun x hx => (List.Perm.swap _ _ _).mem_iff.mp hx)).set (.ins CD dxa (heFs (.ref la)))
  generalize put (put (put S17 ar (.ins CD dxa [])) la (.lst (((List.range n).filter kp).map fun j => D.ref (H2.a (.t (fstOf rs j)))))) ar (.ins CD dxa (heFs (.ref la))) = S18 at Q7 ⊢
  clear Q6
  have emi : (((List.range n).filter kp).map fun j => D.ref (H2.a (.t (fstOf rs j)))) = ((((List.range n).filter kp).map (fstOf rs)).map Vl.th).map (vD H2) := by rw [List.map_map, List.map_map]; rfl
  have hroots : ∀ x, Vl.th x ∈ (((List.range n).filter kp).map (fstOf rs)).map Vl.th ↔ ∃ (i : Nat) (g : Rg), rs[i]? = some g ∧ kp i = true ∧ x = g.fst := fun x => by
    rw [List.mem_map]
    constructor
    · rintro ⟨y, hy, e⟩
      cases e
      obtain ⟨j, hj, rfl⟩ := List.mem_map.mp hy
      obtain ⟨h1, h2⟩ := List.mem_filter.mp hj
      obtain ⟨g, hg⟩ := hrsg (List.mem_range.mp h1)
      exact ⟨j, g, hg, h2, hfst hg⟩
    · rintro ⟨i, g, hg, hk, rfl⟩
      have hin' : i < n := by rw [← B.n]; exact (List.getElem?_eq_some_iff.mp hg).1
      exact ⟨g.fst, List.mem_map.mpr ⟨i, List.mem_filter.mpr ⟨List.mem_range.mpr hin', hk⟩, hfst hg⟩, rfl⟩
  have hmil2 : ((((List.range n).filter kp).map (fstOf rs)).map Vl.th).length ≤ 9 := by rw [List.length_map, List.length_map]; exact Nat.le_trans (List.length_filter_le ..) (by rw [List.length_range]; exact hn9)
  rw [emi] at Q7
  clear hmil
  have hrth' : ∀ v ∈ (((List.range n).filter kp).map (fstOf rs)).map Vl.th, ∃ x, v = Vl.th x := fun v hv => by obtain ⟨x, _, rfl⟩ := List.mem_map.mp hv; exact ⟨x, rfl⟩
  generalize (((List.range n).filter kp).map (fstOf rs)).map Vl.th = roots at Q7 hroots hmil2 hrth'
  have hrs : ∀ x, Vl.th x ∈ roots → x ∈ s2.there ∧ s2.ends.count x < s2.outer.count x := fun x hx => by
    obtain ⟨i, g, hg, hk, rfl⟩ := (hroots x).mp hx
    have h1 := I2.rng i g hg
    have h2 := I2.pos i g hg
    have h3 : g.fst = g.a + 1 := rfl
    refine ⟨r2.all _ (by omega) (by omega), ?_⟩
    rw [r2.ends]
    exact List.count_pos_iff.mpr (ho i g hg (.inr hk))
  have Ka := askD_e (fun _ => []) 0 13
  have jx := r2.jx
  obtain ⟨lost, s3, tt⟩ := swept_exD (pn0 0) (by decide) jx (by decide) r2.cl r2.rest r2.lasts roots
  obtain ⟨lost0, s1m, dm, gm, em', fm, m⟩ := tt.mid Ka r2.lasts r2.W r2.G r2.cl r2.rest r2.row jx.slk
  have v := m.sv Ka jx.slk
  have wh := m.whole jx.slk hrs (fun x _ => by rw [r2.asked]; exact nofun)
  have j3 := swept_jx (pn0 0) jx r2.cl r2.rest r2.lasts tt
  have hreach := I2.reach (kp := kp) hroots
  have elost : lost = due := lost_uniq (s := s2) (base := (· ∈ s2.there)) (rs := roots) ⟨wh.srt, wh.mem⟩ ⟨hds, fun x => by
    rw [hdm]
    constructor
    · rintro ⟨j, g, hg, hx, hst⟩
      have h1 := I2.rng j g hg
      refine ⟨r2.all x (by have := hx.1; omega) (by have := hx.2; omega), fun hr => ?_⟩
      obtain ⟨j2, g2, hg2, hx2, hst2⟩ := (hreach x).mp hr
      obtain ⟨e1, _⟩ := I2.uniq hg hg2 hx hx2
      rw [← e1, hst] at hst2
      cases hst2
    · rintro ⟨hx, hnr⟩
      obtain ⟨a1, a2⟩ := r2.W.tin x hx
      obtain ⟨j, g, hg, hxg⟩ := I2.cov x a1 a2
      refine ⟨j, g, hg, hxg, ?_⟩
      cases hz : st kp fo j with
      | false => rfl
      | true => exact absurd ((hreach x).mpr ⟨j, g, hg, hxg, hz⟩) hnr⟩
  obtain ⟨lost2, s4, tt2⟩ := swept_exD (pn0 0) (by decide) j3 (by decide) v.cl v.rest v.lasts roots
  obtain ⟨l02, s12, d2, g2, e2', f2, m2⟩ := tt2.mid Ka v.lasts v.W v.G v.cl v.rest v.row j3.slk
  obtain ⟨el2, es4⟩ := m2.still wh.clean
  subst el2 es4
  have szOf : ∀ {s2 : Hs}, (∀ n, (s2.parts n).length ≤ 9) → s2.many ≤ 4500 → Sz s2 := fun {s2} h1 h2 => by
    have := msum_mul (f := fun n => (ledP s2 n).length + 1) (c := 10) (fun i => by show (List.map _ (s2.parts i)).length + 1 ≤ 10; rw [List.length_map]; have := h1 i; omega) s2.many
    show msum _ _ ≤ 80000
    omega
  have arn : ∀ {H4 : HA} {s4 : Hs} {S : Sto} {l : List (Addr × O)}, Q9 CT CH CE dxe H4 s4 w ((ar, .ins CD dxa (heFs (.ref la))) :: (la, .lst (roots.map (vD H4))) :: l) S → Arnd CT CH CD ((⟨dxe, [], fun _ => [], 0⟩ : Ix).en CE) H4 s4 ar dxa la roots S := fun {H4 s4 S l} Q => ⟨Q.mem (by simp), Q.mem (by simp), fun x hx => Q.nh (ar, O.ins CD dxa (heFs (.ref la))) (by simp) x hx, fun x hx => Q.nh (la, .lst (roots.map (vD H4))) (by simp) x hx⟩
  have hrv : ∀ v ∈ roots, ∀ x, v = .th x → 1 ≤ x ∧ x ≤ s2.many := fun v hv x e => by rw [e] at hv; exact r2.W.tin x (hrs x hv).1
  have hrth : ∀ v ∈ roots, ∃ x, v = Vl.th x := fun v hv => hrth' v hv
  walk_at "dl"
  refine ⟨_, hI0, H2, s2, ar, dxa, la, roots, lost, s4, by rw [eh2], Q7.h, arn Q7, r2.W, r2.G, r2.cl, r2.rest, jx.slk, fun v hv => ?_, by omega, szOf (fun n => parts6 (pn0 0) r2.W r2.kk n) (by omega), fun l1 s5 A => ?_, tt, fun H3 S19 pp T1 hpp => ?_⟩
  · obtain ⟨x, rfl⟩ := hrth v hv
    exact hrv _ hv x rfl
  · obtain ⟨z1, z2⟩ := all_sz (pn0 0) jx (by decide) A
    exact szOf z1 (by omega)
  have hmm := v.many
  have hm3 : Hm s2.many H2 H3 := ⟨T1.hall, HTr.x0 T1, fun n a b => T1.t a b⟩
  have eh3 : H3.a .hall = hl := T1.hall.trans eh2
  have ee3 : H3.a (.x 0) = e := (HTr.x0 T1).trans ee2
  have Q8 := (Q7.step T1).new hpp (.lst (lost.map fun n : Nat => .int (n : Int)))
  have hpt : put S19 pp (.lst (lost.map fun n : Nat => .int (n : Int))) pp = some (.lst (lost.map fun n : Nat => .int (n : Int))) := put_same
  generalize put S19 pp (.lst (lost.map fun n : Nat => .int (n : Int))) = S20 at Q8 hpt ⊢
  have Q8 := Q8.drop
  clear Q7
  have erv : roots.map (vD H2) = roots.map (vD H3) := List.map_congr_left fun v hv => by
    obtain ⟨x, rfl⟩ := hrth v hv
    have := hrv _ hv x rfl
    exact congrArg D.ref (T1.t this.1 this.2).symm
  rw [erv] at Q8
  have hdeep : (D.list (nD due)).deep ≤ 64 := by rw [nD_ints, ints_deep]; exact Nat.le_of_ble_eq_true rfl
  walk_at "dl"
  refine neASame (p' := .list (nD due)) (by simp only [res, hpt]; rw [elost]; rfl) rfl (nat_any _) hdeep ?_
  walk_at "dl"
  refine needOf (methOf (x := .non) (by rw [← eh3]; exact hrep_hall Q8.h) rfl) ?_
  walk_at "dl"
  refine ⟨_, hI0, H3, s4, by rw [eh3], Q8.h, ?_⟩
  walk_at "dl"
  refine neASame (p' := .list (nD due)) (by show D.list (nD s4.left) = _; rw [wh.left, r2.left, elost]; rfl) rfl (nat_any _) hdeep ?_
  walk_at "dl"
  refine needOf (methOf (x := .non) (by rw [← ee3]; exact en_e Q8.h) rfl) ?_
  walk_at "dl"
  refine ⟨_, hI0, H3, s4, by rw [ee3], Q8.h, fun p4 hp4 => ?_⟩
  have Q9b := Q8.fresh hp4 (.lst (nD s4.asked))
  have hp44 : put S20 p4 (.lst (nD s4.asked)) p4 = some (.lst (nD s4.asked)) := put_same
  generalize put S20 p4 (.lst (nD s4.asked)) = S21 at Q9b hp44 ⊢
  walk_at "dl"
  refine neASame (p' := .list (nD due)) (by simp only [res, hp44]; rw [wh.asked, r2.asked, elost]; rfl) rfl (nat_any _) hdeep ?_
  walk_at "dl"
  refine ⟨_, hI0, H3, s4, ar, dxa, la, roots, [], s4, by rw [eh3], Q9b.h, arn Q9b, v.W, v.G, v.cl, v.rest, j3.slk, fun v' hv => ?_, by omega, szOf (fun n => parts6 (pn0 0) v.W j3.kk n) (by have := j3.ln; unfold nbP at this; omega), fun l1 s5 A => ?_, tt2, fun H4 S22 pq T2 hpq => ?_⟩
  · obtain ⟨x, rfl⟩ := hrth v' hv
    have := hrv _ hv x rfl
    exact ⟨this.1, Nat.le_trans this.2 hmm⟩
  · obtain ⟨z1, z2⟩ := all_sz (pn0 0) j3 (by decide) A
    exact szOf z1 (by omega)
  have hm4 : Hm s4.many H3 H4 := ⟨T2.hall, HTr.x0 T2, fun n a b => T2.t a b⟩
  have hm24 := hm3.trans hm4 hmm
  have eh4 : H4.a .hall = hl := T2.hall.trans eh3
  have Q10 := (Q9b.step T2).new hpq (.lst (([] : List Nat).map fun n : Nat => .int (n : Int)))
  have hpt2 : put S22 pq (.lst (([] : List Nat).map fun n : Nat => .int (n : Int))) pq = some (.lst []) := put_same
  generalize put S22 pq (.lst (([] : List Nat).map fun n : Nat => .int (n : Int))) = S23 at Q10 hpt2 ⊢
  have Q10 := Q10.drop.drop.drop
  clear Q8 Q9b
  have hRL3 : ∀ {i : Nat} {g : Rg}, rs[i]? = some g → RL[i]? = some (ringD H4 g) := fun {i g} h => by rw [hRLg h, ringD_congr hm24 (I2.rng i g h)]
  have hcount : ∀ {i : Nat} {g : Rg} {x : Nat}, rs[i]? = some g → g.has x → st kp fo i = true → s2.cnt x = s4.cnt x + (if x = g.fst ∧ 1 ≤ i ∧ fo i = true ∧ st kp fo (i - 1) = false then 1 else 0) := fun {i g x} hg hx hs => by
    classical
    exact I2.counts (kp := kp) (f := fun y => @decide (∃ (i : Nat) (g : Rg), rs[i]? = some g ∧ g.has y ∧ st kp fo i = true) (Classical.propDecidable _)) r2.W r2.G v.G r2.rest v.rest (fun i => by have := v.bal i; rw [wh.ends, r2.ends] at this; exact this) (fun y => by rw [wh.there, hreach, decide_eq_true_iff]) v.W.nd (fun y hy => wh.parts y hy) r2.all (fun i g y hg hy => by
      rw [decide_eq_true_iff]
      exact ⟨fun ⟨i2, g2, h1, h2, h3⟩ => by rw [(I2.uniq hg h1 hy h2).1]; exact h3, fun h => ⟨i, g, hg, hy, h⟩⟩) hg hx hs
  walk_at "dl"
  refine neASame (p' := .list []) (by simp only [res, hpt2]) rfl rfl (by decide) ?_
  walk_at "dl"
  refine lenRf (Q10.mem hrg5) ?_
  rw [hRLn]
  walk_at "dl"
  refine rngOf (by omega) (by omega) ?_
  refine forOf (fun i δ S' => ∃ z7, δ = [some (.scr (ns.map D.int)), some (.ref w), some (.ref e), some (.ref hl), some (.ref rg), some (.ref fl), some (.int (gr : Int)), z7, some (.list KL), some (.ref sy), some (.list (nD due)), some (.list CL), some (.ref ar), none, none] ∧ Q9 CT CH CE dxe H4 s4 w (((List.range n).drop i).map (fun j => (Pp j, O.lst (cntL rs s2 j))) ++ [(sy, .lst SL), (fl, .lst FL), (rg, .lst RL)]) S')
    ⟨_, rfl, by rw [List.drop_zero]; exact Q10⟩ ?_ ?_
  · clear Q10
    rintro i d δ S24 hi ⟨z10, rfl, Q11⟩
    obtain ⟨rfl, hin⟩ := rngD_get hi
    have hin' : i < n := by omega
    obtain ⟨g, hg⟩ := hrsg hin'
    have hgp := I2.pos i g hg
    have hgr := I2.rng i g hg
    have edrop : (List.range n).drop i = i :: (List.range n).drop (i + 1) := by rw [List.drop_eq_getElem_cons (by rw [List.length_range]; exact hin'), List.getElem_range]
    rw [edrop, List.map_cons, List.cons_append] at Q11
    rw [show (0 : Int) + (i : Int) = ((i : Nat) : Int) by omega]
    have hsy5 : ∀ {c : O} {l : List (Addr × O)} {x y : O}, (sy, O.lst SL) ∈ (Pp i, c) :: (l ++ [(sy, O.lst SL), (fl, y), (rg, x)]) := fun {c l x y} => by simp
    have hfl5 : ∀ {c : O} {l : List (Addr × O)} {x y : O}, (fl, O.lst FL) ∈ (Pp i, c) :: (l ++ [(sy, y), (fl, O.lst FL), (rg, x)]) := fun {c l x y} => by simp
    have hrg6 : ∀ {c : O} {l : List (Addr × O)} {x y : O}, (rg, O.lst RL) ∈ (Pp i, c) :: (l ++ [(sy, y), (fl, x), (rg, O.lst RL)]) := fun {c l x y} => by simp
    walk_at "dl"
    refine ixSeq (j := i) (Q11.mem hfl5) (hflg hin') ?_
    walk_at "dl"
    cases hf : fo i with
    | false =>
      have Q9a := Q11
      walk_at "dl"
      refine ixSeq (j := i) (Q9a.mem hsy5) (hsyg hin') ?_
      walk_at "dl"
      cases hs : st kp fo i with
      | false =>
        walk_at "dl"
        exact ⟨_, rfl, Q9a.drop⟩
      | true =>
        walk_at "dl"
        refine ixSeq (j := i) (Q9a.mem hrg6) (d := .list ((List.range g.l).map fun j => .ref (H4.a (.t (g.a + 1 + j))))) (hRL3 hg) ?_
        walk_at "dl"
        refine lcOf (fun t acc => acc = (cntL rs s4 i).take t) (by rw [List.length_map, List.length_range]; omega) rfl ?_ ?_
        · rintro p' hp' t d acc ht rfl
          rw [List.getElem?_map] at ht
          obtain ⟨t', ht', rfl⟩ := Option.map_eq_some_iff.mp ht
          obtain ⟨htl, rfl⟩ := List.getElem?_range_some ht'
          have Qh := Q9a.fresh hp' (.lst ((cntL rs s4 i).take t))
          walk_at "dl"
          refine fldOf (hrep_t Qh.h (n := g.a + 1 + t) (by omega) (by omega)) th_count ?_
          walk_at "dl"
          refine LcO.of hp' ?_
          rw [show cntL rs s4 i = (List.range g.l).map fun t => D.int (s4.cnt (g.a + 1 + t)) by unfold cntL; rw [hg], List.take_add_one, List.getElem?_map, List.getElem?_range htl]
          rfl
        rintro acc rfl
        rw [List.length_map, List.length_range, show (cntL rs s4 i).take g.l = cntL rs s4 i from List.take_of_length_le (by unfold cntL; rw [hg]; simp)]
        walk_at "dl"
        refine ixAt (.inl rfl) (hcl hin') ?_
        walk_at "dl"
        refine neASame (p' := .list (cntL rs s4 i)) rfl (by simp only [res, Q9a.top]; exact congrArg D.list (by exact cnt_same hg fun x hx => by have := hcount hg hx hs; rw [if_neg (by rintro ⟨_, _, z1, z2⟩; rw [hf] at z1; cases z1)] at this; simpa using this)) (cntL_any rs s4 i) (cntL_deep rs s4 i) ?_
        walk_at "dl"
        exact ⟨_, rfl, Q9a.drop⟩
    | true =>
      obtain ⟨qi, rfl⟩ : ∃ qi, i = qi + 1 := ⟨i - 1, by
        have : i ≠ 0 := fun y => by rw [y, B.f0] at hf; cases hf
        omega⟩
      walk_at "dl"
      rw [show (((qi + 1 : Nat) : Int) - 1 : Int) = ((qi : Nat) : Int) by omega]
      refine ixSeq (j := qi) (Q11.mem hsy5) (hsyg (by omega)) ?_
      walk_at "dl"
      cases hs0 : st kp fo qi with
      | true =>
        have Q9a := Q11
        walk_at "dl"
        refine ixSeq (j := qi + 1) (Q9a.mem hsy5) (hsyg hin') ?_
        walk_at "dl"
        cases hs : st kp fo (qi + 1) with
        | false =>
          walk_at "dl"
          exact ⟨_, rfl, Q9a.drop⟩
        | true =>
          walk_at "dl"
          refine ixSeq (j := qi + 1) (Q9a.mem hrg6) (d := .list ((List.range g.l).map fun j => .ref (H4.a (.t (g.a + 1 + j))))) (hRL3 hg) ?_
          walk_at "dl"
          refine lcOf (fun t acc => acc = (cntL rs s4 (qi + 1)).take t) (by rw [List.length_map, List.length_range]; omega) rfl ?_ ?_
          · rintro p' hp' t d acc ht rfl
            rw [List.getElem?_map] at ht
            obtain ⟨t', ht', rfl⟩ := Option.map_eq_some_iff.mp ht
            obtain ⟨htl, rfl⟩ := List.getElem?_range_some ht'
            have Qh := Q9a.fresh hp' (.lst ((cntL rs s4 (qi + 1)).take t))
            walk_at "dl"
            refine fldOf (hrep_t Qh.h (n := g.a + 1 + t) (by omega) (by omega)) th_count ?_
            walk_at "dl"
            refine LcO.of hp' ?_
            rw [show cntL rs s4 (qi + 1) = (List.range g.l).map fun t => D.int (s4.cnt (g.a + 1 + t)) by unfold cntL; rw [hg], List.take_add_one, List.getElem?_map, List.getElem?_range htl]
            rfl
          rintro acc rfl
          rw [List.length_map, List.length_range, show (cntL rs s4 (qi + 1)).take g.l = cntL rs s4 (qi + 1) from List.take_of_length_le (by unfold cntL; rw [hg]; simp)]
          walk_at "dl"
          refine ixAt (.inl rfl) (hcl hin') ?_
          walk_at "dl"
          refine neASame (p' := .list (cntL rs s4 (qi + 1))) rfl (by simp only [res, Q9a.top]; exact congrArg D.list (by exact cnt_same hg fun x hx => by have := hcount hg hx hs; rw [if_neg (by rintro ⟨_, _, z1, z2⟩; rw [Nat.add_sub_cancel, hs0] at z2; cases z2)] at this; simpa using this)) (cntL_any rs s4 (qi + 1)) (cntL_deep rs s4 (qi + 1)) ?_
          walk_at "dl"
          exact ⟨_, rfl, Q9a.drop⟩
      | false =>
        have hc0 : cntL rs s2 (qi + 1) = (List.range g.l).map fun t => D.int (s2.cnt (g.a + 1 + t)) := by unfold cntL; rw [hg]
        walk_at "dl"
        refine ixAt (.inl rfl) (hcl hin') ?_
        walk_at "dl"
        refine ixSeq (j := 0) Q11.top (d := .int (s2.cnt g.fst)) (by rw [hc0, List.getElem?_map, List.getElem?_range hgp]; rfl) ?_
        walk_at "dl"
        refine ixAt (.inl rfl) (hcl hin') ?_
        walk_at "dl"
        refine setOf Q11.top (ixN_zero (by rw [hc0, List.length_map, List.length_range]; exact hgp)) ?_
        have Q9a := Q11.set (.lst ((cntL rs s2 (qi + 1)).set 0 (.int (s2.cnt g.fst - 1))))
        generalize put S24 (Pp (qi + 1)) (.lst ((cntL rs s2 (qi + 1)).set 0 (.int (s2.cnt g.fst - 1)))) = S25 at Q9a ⊢
        walk_at "dl"
        refine ixSeq (j := qi + 1) (Q9a.mem hsy5) (hsyg hin') ?_
        walk_at "dl"
        cases hs : st kp fo (qi + 1) with
        | false =>
          walk_at "dl"
          exact ⟨_, rfl, Q9a.drop⟩
        | true =>
          walk_at "dl"
          refine ixSeq (j := qi + 1) (Q9a.mem hrg6) (d := .list ((List.range g.l).map fun j => .ref (H4.a (.t (g.a + 1 + j))))) (hRL3 hg) ?_
          walk_at "dl"
          refine lcOf (fun t acc => acc = (cntL rs s4 (qi + 1)).take t) (by rw [List.length_map, List.length_range]; omega) rfl ?_ ?_
          · rintro p' hp' t d acc ht rfl
            rw [List.getElem?_map] at ht
            obtain ⟨t', ht', rfl⟩ := Option.map_eq_some_iff.mp ht
            obtain ⟨htl, rfl⟩ := List.getElem?_range_some ht'
            have Qh := Q9a.fresh hp' (.lst ((cntL rs s4 (qi + 1)).take t))
            walk_at "dl"
            refine fldOf (hrep_t Qh.h (n := g.a + 1 + t) (by omega) (by omega)) th_count ?_
            walk_at "dl"
            refine LcO.of hp' ?_
            rw [show cntL rs s4 (qi + 1) = (List.range g.l).map fun t => D.int (s4.cnt (g.a + 1 + t)) by unfold cntL; rw [hg], List.take_add_one, List.getElem?_map, List.getElem?_range htl]
            rfl
          rintro acc rfl
          rw [List.length_map, List.length_range, show (cntL rs s4 (qi + 1)).take g.l = cntL rs s4 (qi + 1) from List.take_of_length_le (by unfold cntL; rw [hg]; simp)]
          walk_at "dl"
          refine ixAt (.inl rfl) (hcl hin') ?_
          walk_at "dl"
          refine neASame (p' := .list (cntL rs s4 (qi + 1))) rfl (by simp only [res, Q9a.top]; exact congrArg D.list (by exact cnt_less hg hgp (by have := hcount hg (Rg.one hgp) hs; rw [if_pos ⟨rfl, by omega, hf, by rw [Nat.add_sub_cancel]; exact hs0⟩] at this; simpa using this) fun x hx hne => by have := hcount hg hx hs; rw [if_neg (fun z => hne z.1)] at this; simpa using this)) (cntL_any rs s4 (qi + 1)) (cntL_deep rs s4 (qi + 1)) ?_
          walk_at "dl"
          exact ⟨_, rfl, Q9a.drop⟩
  rintro δ S24 ⟨z10, rfl, Q11⟩
  rw [rngD_len, show ((n : Int)).toNat = n by omega, List.drop_eq_nil_of_le (by rw [List.length_range]; exact Nat.le_refl _), List.map_nil, List.nil_append] at Q11
  clear Q10
  have hrg7 : ∀ {x y : O}, (rg, O.lst RL) ∈ [(sy, x), (fl, y), (rg, O.lst RL)] := fun {x y} => by simp
  walk_at "dl"
  refine needOf (methOf (x := .non) (by rw [← eh4]; exact hrep_hall Q11.h) rfl) ?_
  walk_at "dl"
  refine ⟨_, hI0, H4, s4, by rw [eh4], Q11.h, v.W, fun ys pm pw => ?_⟩
  walk_at "dl"
  refine slOf (Q11.mem hrg7) ?_
  refine lcSOf (fun i acc => acc = ((rs.take i).map fun g => (g.l : Int)).map D.int) (by rw [hRLn]; omega) (fun p' acc hp' => (Q11.fresh hp' _).mem hrg7) rfl ?_ ?_
  · rintro p' hp' i d acc hi rfl
    have hin' : i < n := by have := (List.getElem?_eq_some_iff.mp hi).1; omega
    obtain ⟨g, hg⟩ := hrsg hin'
    rw [hRL3 hg] at hi
    cases hi
    show gcN _ (.list ((List.range g.l).map fun j => .ref (H4.a (.t (g.a + 1 + j))))) _ _
    walk_at "dl"
    refine LcO.of hp' ?_
    rw [List.take_add_one, hg, List.length_map, List.length_range, List.map_append, List.map_append]
    rfl
  rintro acc rfl
  rw [hRLn, ← B.n, List.take_length]
  walk_at "dl"
  refine ⟨_, rfl, ?_⟩
  walk_at "dl"
  have e1 : ys.length = s4.there.length := by have := pm.length_eq; rw [List.length_map] at this; exact this
  have e2 : s4.there.length + due.length = s2.many := by
    have pm2 : (s4.there ++ due).Perm ((List.range s2.many).map (· + 1)) := by
      refine (List.perm_ext_iff_of_nodup (List.nodup_append.mpr ⟨v.W.nd, List.nodup_iff_pairwise_ne.mpr (hds.imp fun h => Nat.ne_of_lt h), fun a ha b hb e => ?_⟩) (kn_all _).nd).mpr fun x => ?_
      · subst e
        rw [← elost] at hb
        exact ((wh.mem a).mp hb).2 ((wh.there a).mp ha).2
      · rw [List.mem_append, ← elost, wh.there, wh.mem, List.mem_map]
        constructor
        · intro hx
          have hx : x ∈ s2.there := hx.elim (fun z => z.1) (fun z => z.1)
          obtain ⟨a1, a2⟩ := r2.W.tin x hx
          exact ⟨x - 1, List.mem_range.mpr (by omega), by omega⟩
        · rintro ⟨y, hy, rfl⟩
          have := List.mem_range.mp hy
          have hx := r2.all (y + 1) (by omega) (by omega)
          by_cases hr : Rch (ledP s2) roots (y + 1)
          · exact .inl ⟨hx, hr⟩
          · exact .inr ⟨hx, hr⟩
    have := pm2.length_eq
    rw [List.length_append, List.length_map, List.length_range] at this
    exact this
  have e3 : (rs.map fun g => (g.l : Int)).sum = (((rs.map (·.l)).sum : Nat) : Int) := sum_cast rs
  rw [e3, B.sum, List.length_map, nD_len, decide_eq_true (by omega)]
  exact h _
structure TxB (K : PySem.W.Frag) (mg : Str → Option Value) (CT CH CE CD : Addr) : Prop where
  e : TxE K mg CT CH CE
  w : TxW K mg CT CH CD
end
end K

set_option Elab.async false
set_option linter.all false
set_option maxRecDepth 100000
namespace K
open PySem L2 Evl EX
section
set_option maxHeartbeats 0 in
theorem all_mk {l : PySem.W.OpenLaw} {w : World} {K : PySem.W.Frag} {h : Heap} {mg : Str → Option Value} {fa : Addr} (X : K.In h) (G : h.Ns mainGlobals mg) (hfa : mg "law" = some (.ref fa))
    {f1 : Addr} {od1 an1 : Option Addr} {sl1 : Array (Option Value)} {oc1 kV1 dc1 pm1 cd1 ct1 : Value}
    {f2 : Addr} {od2 an2 : Option Addr} {sl2 : Array (Option Value)} {oc2 kV2 dc2 pm2 cd2 ct2 : Value}
    {f3 : Addr} {od3 an3 : Option Addr} {sl3 : Array (Option Value)} {oc3 kV3 dc3 pm3 cd3 ct3 : Value}
    {f4 : Addr} {od4 an4 : Option Addr} {sl4 : Array (Option Value)} {oc4 kV4 dc4 pm4 cd4 ct4 : Value}
    {f5 : Addr} {od5 an5 : Option Addr} {sl5 : Array (Option Value)} {oc5 kV5 dc5 pm5 cd5 ct5 : Value}
    {f6 : Addr} {od6 an6 : Option Addr} {sl6 : Array (Option Value)} {oc6 kV6 dc6 pm6 cd6 ct6 : Value}
    {f7 : Addr} {od7 an7 : Option Addr} {sl7 : Array (Option Value)} {oc7 kV7 dc7 pm7 cd7 ct7 : Value}
    {f8 : Addr} {od8 an8 : Option Addr} {sl8 : Array (Option Value)} {oc8 kV8 dc8 pm8 cd8 ct8 : Value}
    {f9 : Addr} {od9 an9 : Option Addr} {sl9 : Array (Option Value)} {oc9 kV9 dc9 pm9 cd9 ct9 : Value}
    {f10 : Addr} {od10 an10 : Option Addr} {sl10 : Array (Option Value)} {oc10 kV10 dc10 pm10 cd10 ct10 : Value}
    {f11 : Addr} {od11 an11 : Option Addr} {sl11 : Array (Option Value)} {oc11 kV11 dc11 pm11 cd11 ct11 : Value}
    {f12 : Addr} {od12 an12 : Option Addr} {sl12 : Array (Option Value)} {oc12 kV12 dc12 pm12 cd12 ct12 : Value}
    {f13 : Addr} {od13 an13 : Option Addr} {sl13 : Array (Option Value)} {oc13 kV13 dc13 pm13 cd13 ct13 : Value}
    {f14 : Addr} {od14 an14 : Option Addr} {sl14 : Array (Option Value)} {oc14 kV14 dc14 pm14 cd14 ct14 : Value}
    {f15 : Addr} {od15 an15 : Option Addr} {sl15 : Array (Option Value)} {oc15 kV15 dc15 pm15 cd15 ct15 : Value}
    {f16 : Addr} {od16 an16 : Option Addr} {sl16 : Array (Option Value)} {oc16 kV16 dc16 pm16 cd16 ct16 : Value}
    {f17 : Addr} {od17 an17 : Option Addr} {sl17 : Array (Option Value)} {oc17 kV17 dc17 pm17 cd17 ct17 : Value}
    {f18 : Addr} {od18 an18 : Option Addr} {sl18 : Array (Option Value)} {oc18 kV18 dc18 pm18 cd18 ct18 : Value}
    {f19 : Addr} {od19 an19 : Option Addr} {sl19 : Array (Option Value)} {oc19 kV19 dc19 pm19 cd19 ct19 : Value}
    {f20 : Addr} {od20 an20 : Option Addr} {sl20 : Array (Option Value)} {oc20 kV20 dc20 pm20 cd20 ct20 : Value}
    {f21 : Addr} {od21 an21 : Option Addr} {sl21 : Array (Option Value)} {oc21 kV21 dc21 pm21 cd21 ct21 : Value}
    {f22 : Addr} {od22 an22 : Option Addr} {sl22 : Array (Option Value)} {oc22 kV22 dc22 pm22 cd22 ct22 : Value}
    {f23 : Addr} {od23 an23 : Option Addr} {sl23 : Array (Option Value)} {oc23 kV23 dc23 pm23 cd23 ct23 : Value}
    {f24 : Addr} {od24 an24 : Option Addr} {sl24 : Array (Option Value)} {oc24 kV24 dc24 pm24 cd24 ct24 : Value}
    {f25 : Addr} {od25 an25 : Option Addr} {sl25 : Array (Option Value)} {oc25 kV25 dc25 pm25 cd25 ct25 : Value}
    {f26 : Addr} {od26 an26 : Option Addr} {sl26 : Array (Option Value)} {oc26 kV26 dc26 pm26 cd26 ct26 : Value}
    {f27 : Addr} {od27 an27 : Option Addr} {sl27 : Array (Option Value)} {oc27 kV27 dc27 pm27 cd27 ct27 : Value}
    {f28 : Addr} {od28 an28 : Option Addr} {sl28 : Array (Option Value)} {oc28 kV28 dc28 pm28 cd28 ct28 : Value}
    {f29 : Addr} {od29 an29 : Option Addr} {sl29 : Array (Option Value)} {oc29 kV29 dc29 pm29 cd29 ct29 : Value}
    {f30 : Addr} {od30 an30 : Option Addr} {sl30 : Array (Option Value)} {oc30 kV30 dc30 pm30 cd30 ct30 : Value}
    {f31 : Addr} {od31 an31 : Option Addr} {sl31 : Array (Option Value)} {oc31 kV31 dc31 pm31 cd31 ct31 : Value}
    {f32 : Addr} {od32 an32 : Option Addr} {sl32 : Array (Option Value)} {oc32 kV32 dc32 pm32 cd32 ct32 : Value}
    {f33 : Addr} {od33 an33 : Option Addr} {sl33 : Array (Option Value)} {oc33 kV33 dc33 pm33 cd33 ct33 : Value}
    {f34 : Addr} {od34 an34 : Option Addr} {sl34 : Array (Option Value)} {oc34 kV34 dc34 pm34 cd34 ct34 : Value}
    {f35 : Addr} {od35 an35 : Option Addr} {sl35 : Array (Option Value)} {oc35 kV35 dc35 pm35 cd35 ct35 : Value}  {C_Thing C_Held C_Hall C_Ends : Addr}
    (aC_Thing : PySem.W.nsIn K mainGlobals "Thing" = some (some (.ref C_Thing)))
    (pg_Thing : PySem.W.plainGet K C_Thing Str.empty = true)
    (hd_Thing : PySem.W.hasDictIn K C_Thing = true)
    (po_Thing : PySem.W.plainOver K C_Thing = true)
    (sa_Thing : PySem.W.findIn K (.ref C_Thing) "__setattr__" = some (some (.builtin "object.__setattr__")))
    (mk_Thing : PySem.W.makesIn K C_Thing = true)
    (kc_Thing : PySem.W.keepIn K (.ref C_Thing) = true)
    (nf_Thing_form : PySem.W.findIn K (.ref C_Thing) "form" = some none)
    (nf_Thing_number : PySem.W.findIn K (.ref C_Thing) "number" = some none)
    (nf_Thing_count : PySem.W.findIn K (.ref C_Thing) "count" = some none)
    (nf_Thing_parts : PySem.W.findIn K (.ref C_Thing) "parts" = some none)
    (nf_Thing_own : PySem.W.findIn K (.ref C_Thing) "own" = some none)
    (nf_Thing_ended : PySem.W.findIn K (.ref C_Thing) "ended" = some none)
    (nf_Thing_waits : PySem.W.findIn K (.ref C_Thing) "waits" = some none)
    (iA_Thing : PySem.W.findIn K (.ref C_Thing) "__class__" = some (some (.builtin "object.__class__")))
    (iB_Thing : PySem.W.specialIn K (.builtin "object.__class__") "__get__" = some (some (.builtin "getset_descriptor.__get__")))
    (iC_Thing : PySem.W.takesIn K (.builtin "object.__class__") = some true)
    (iD_Thing : PySem.W.mroIn K C_Thing (.type "object") = some true)
    (it0_Thing : PySem.W.kitOne K (.ref C_Thing) (.type "bool") = some false)
    (it1_Thing : PySem.W.kitOne K (.ref C_Thing) (.type "int") = some false)
    (it2_Thing : PySem.W.kitOne K (.ref C_Thing) (.type "str") = some false)
    (if0_Thing : PySem.W.kitOne K (.type "NoneType") (.ref C_Thing) = some false)
    (if1_Thing : PySem.W.kitOne K (.type "bool") (.ref C_Thing) = some false)
    (if2_Thing : PySem.W.kitOne K (.type "int") (.ref C_Thing) = some false)
    (if3_Thing : PySem.W.kitOne K (.type "str") (.ref C_Thing) = some false)
    (aC_Held : PySem.W.nsIn K mainGlobals "Held" = some (some (.ref C_Held)))
    (pg_Held : PySem.W.plainGet K C_Held Str.empty = true)
    (hd_Held : PySem.W.hasDictIn K C_Held = true)
    (po_Held : PySem.W.plainOver K C_Held = true)
    (sa_Held : PySem.W.findIn K (.ref C_Held) "__setattr__" = some (some (.builtin "object.__setattr__")))
    (mk_Held : PySem.W.makesIn K C_Held = true)
    (kc_Held : PySem.W.keepIn K (.ref C_Held) = true)
    (nf_Held_has : PySem.W.findIn K (.ref C_Held) "has" = some none)
    (iA_Held : PySem.W.findIn K (.ref C_Held) "__class__" = some (some (.builtin "object.__class__")))
    (iB_Held : PySem.W.specialIn K (.builtin "object.__class__") "__get__" = some (some (.builtin "getset_descriptor.__get__")))
    (iC_Held : PySem.W.takesIn K (.builtin "object.__class__") = some true)
    (iD_Held : PySem.W.mroIn K C_Held (.type "object") = some true)
    (it0_Held : PySem.W.kitOne K (.ref C_Held) (.type "bool") = some false)
    (it1_Held : PySem.W.kitOne K (.ref C_Held) (.type "int") = some false)
    (it2_Held : PySem.W.kitOne K (.ref C_Held) (.type "str") = some false)
    (if0_Held : PySem.W.kitOne K (.type "NoneType") (.ref C_Held) = some false)
    (if1_Held : PySem.W.kitOne K (.type "bool") (.ref C_Held) = some false)
    (if2_Held : PySem.W.kitOne K (.type "int") (.ref C_Held) = some false)
    (if3_Held : PySem.W.kitOne K (.type "str") (.ref C_Held) = some false)
    (aC_Hall : PySem.W.nsIn K mainGlobals "Hall" = some (some (.ref C_Hall)))
    (pg_Hall : PySem.W.plainGet K C_Hall Str.empty = true)
    (hd_Hall : PySem.W.hasDictIn K C_Hall = true)
    (po_Hall : PySem.W.plainOver K C_Hall = true)
    (sa_Hall : PySem.W.findIn K (.ref C_Hall) "__setattr__" = some (some (.builtin "object.__setattr__")))
    (mk_Hall : PySem.W.makesIn K C_Hall = true)
    (kc_Hall : PySem.W.keepIn K (.ref C_Hall) = true)
    (nf_Hall_ender : PySem.W.findIn K (.ref C_Hall) "ender" = some none)
    (nf_Hall_many : PySem.W.findIn K (.ref C_Hall) "many" = some none)
    (nf_Hall_there : PySem.W.findIn K (.ref C_Hall) "there" = some none)
    (nf_Hall_left : PySem.W.findIn K (.ref C_Hall) "left" = some none)
    (nf_Hall_row : PySem.W.findIn K (.ref C_Hall) "row" = some none)
    (nf_Hall_lasts : PySem.W.findIn K (.ref C_Hall) "lasts" = some none)
    (aC_Ends : PySem.W.nsIn K mainGlobals "Ends" = some (some (.ref C_Ends)))
    (pg_Ends : PySem.W.plainGet K C_Ends Str.empty = true)
    (hd_Ends : PySem.W.hasDictIn K C_Ends = true)
    (po_Ends : PySem.W.plainOver K C_Ends = true)
    (sa_Ends : PySem.W.findIn K (.ref C_Ends) "__setattr__" = some (some (.builtin "object.__setattr__")))
    (mk_Ends : PySem.W.makesIn K C_Ends = true)
    (kc_Ends : PySem.W.keepIn K (.ref C_Ends) = true)
    (nf_Ends_hall : PySem.W.findIn K (.ref C_Ends) "hall" = some none)
    (nf_Ends_plans : PySem.W.findIn K (.ref C_Ends) "plans" = some none)
    (nf_Ends_numbers : PySem.W.findIn K (.ref C_Ends) "numbers" = some none)
    (nf_Ends_holds : PySem.W.findIn K (.ref C_Ends) "holds" = some none)
    (a1 : PySem.W.findIn K (.ref C_Thing) "__init__" = some (some (.ref f1))) (i1 : PySem.W.isFn K (.ref f1) = true) (l1 : K.lookup f1 = some ⟨oc1, od1, .func (PySem.W.fnOf "__init__" "Thing.__init__" (defArgs s_Thing___init__) (defBody s_Thing___init__) (defScope s_Thing___init__) .none kV1 dc1 pm1 an1 cd1 ct1), sl1⟩) (c1 : PySem.W.codeIn K cd1 "Thing.__init__" = true) (k1 : PySem.W.keepIn K (.ref f1) = true)
    (a2 : PySem.W.findIn K (.ref C_Held) "__init__" = some (some (.ref f2))) (i2 : PySem.W.isFn K (.ref f2) = true) (l2 : K.lookup f2 = some ⟨oc2, od2, .func (PySem.W.fnOf "__init__" "Held.__init__" (defArgs s_Held___init__) (defBody s_Held___init__) (defScope s_Held___init__) .none kV2 dc2 pm2 an2 cd2 ct2), sl2⟩) (c2 : PySem.W.codeIn K cd2 "Held.__init__" = true) (k2 : PySem.W.keepIn K (.ref f2) = true)
    (a3 : PySem.W.findIn K (.ref C_Held) "held" = some (some (.ref f3))) (i3 : PySem.W.isFn K (.ref f3) = true) (l3 : K.lookup f3 = some ⟨oc3, od3, .func (PySem.W.fnOf "held" "Held.held" (defArgs s_Held_held) (defBody s_Held_held) (defScope s_Held_held) .none kV3 dc3 pm3 an3 cd3 ct3), sl3⟩) (c3 : PySem.W.codeIn K cd3 "Held.held" = true) (k3 : PySem.W.keepIn K (.ref f3) = true)
    (a4 : PySem.W.findIn K (.ref C_Hall) "__init__" = some (some (.ref f4))) (i4 : PySem.W.isFn K (.ref f4) = true) (l4 : K.lookup f4 = some ⟨oc4, od4, .func (PySem.W.fnOf "__init__" "Hall.__init__" (defArgs s_Hall___init__) (defBody s_Hall___init__) (defScope s_Hall___init__) .none kV4 dc4 pm4 an4 cd4 ct4), sl4⟩) (c4 : PySem.W.codeIn K cd4 "Hall.__init__" = true) (k4 : PySem.W.keepIn K (.ref f4) = true)
    (a5 : PySem.W.findIn K (.ref C_Ends) "__init__" = some (some (.ref f5))) (i5 : PySem.W.isFn K (.ref f5) = true) (l5 : K.lookup f5 = some ⟨oc5, od5, .func (PySem.W.fnOf "__init__" "Ends.__init__" (defArgs s_Ends___init__) (defBody s_Ends___init__) (defScope s_Ends___init__) .none kV5 dc5 pm5 an5 cd5 ct5), sl5⟩) (c5 : PySem.W.codeIn K cd5 "Ends.__init__" = true) (k5 : PySem.W.keepIn K (.ref f5) = true)
    (a6 : PySem.W.findIn K (.ref C_Hall) "make" = some (some (.ref f6))) (i6 : PySem.W.isFn K (.ref f6) = true) (l6 : K.lookup f6 = some ⟨oc6, od6, .func (PySem.W.fnOf "make" "Hall.make" (defArgs s_Hall_make) (defBody s_Hall_make) (defScope s_Hall_make) .none kV6 dc6 pm6 an6 cd6 ct6), sl6⟩) (c6 : PySem.W.codeIn K cd6 "Hall.make" = true) (k6 : PySem.W.keepIn K (.ref f6) = true)
    (a7 : PySem.W.findIn K (.ref C_Hall) "hold" = some (some (.ref f7))) (i7 : PySem.W.isFn K (.ref f7) = true) (l7 : K.lookup f7 = some ⟨oc7, od7, .func (PySem.W.fnOf "hold" "Hall.hold" (defArgs s_Hall_hold) (defBody s_Hall_hold) (defScope s_Hall_hold) .none kV7 dc7 pm7 an7 cd7 ct7), sl7⟩) (c7 : PySem.W.codeIn K cd7 "Hall.hold" = true) (k7 : PySem.W.keepIn K (.ref f7) = true)
    (a8 : PySem.W.findIn K (.ref C_Hall) "let_go" = some (some (.ref f8))) (i8 : PySem.W.isFn K (.ref f8) = true) (l8 : K.lookup f8 = some ⟨oc8, od8, .func (PySem.W.fnOf "let_go" "Hall.let_go" (defArgs s_Hall_let_go) (defBody s_Hall_let_go) (defScope s_Hall_let_go) .none kV8 dc8 pm8 an8 cd8 ct8), sl8⟩) (c8 : PySem.W.codeIn K cd8 "Hall.let_go" = true) (k8 : PySem.W.keepIn K (.ref f8) = true)
    (a9 : PySem.W.findIn K (.ref C_Hall) "loose" = some (some (.ref f9))) (i9 : PySem.W.isFn K (.ref f9) = true) (l9 : K.lookup f9 = some ⟨oc9, od9, .func (PySem.W.fnOf "loose" "Hall.loose" (defArgs s_Hall_loose) (defBody s_Hall_loose) (defScope s_Hall_loose) .none kV9 dc9 pm9 an9 cd9 ct9), sl9⟩) (c9 : PySem.W.codeIn K cd9 "Hall.loose" = true) (k9 : PySem.W.keepIn K (.ref f9) = true)
    (a10 : PySem.W.findIn K (.ref C_Hall) "empty" = some (some (.ref f10))) (i10 : PySem.W.isFn K (.ref f10) = true) (l10 : K.lookup f10 = some ⟨oc10, od10, .func (PySem.W.fnOf "empty" "Hall.empty" (defArgs s_Hall_empty) (defBody s_Hall_empty) (defScope s_Hall_empty) .none kV10 dc10 pm10 an10 cd10 ct10), sl10⟩) (c10 : PySem.W.codeIn K cd10 "Hall.empty" = true) (k10 : PySem.W.keepIn K (.ref f10) = true)
    (a11 : PySem.W.findIn K (.ref C_Hall) "be_gone" = some (some (.ref f11))) (i11 : PySem.W.isFn K (.ref f11) = true) (l11 : K.lookup f11 = some ⟨oc11, od11, .func (PySem.W.fnOf "be_gone" "Hall.be_gone" (defArgs s_Hall_be_gone) (defBody s_Hall_be_gone) (defScope s_Hall_be_gone) .none kV11 dc11 pm11 an11 cd11 ct11), sl11⟩) (c11 : PySem.W.codeIn K cd11 "Hall.be_gone" = true) (k11 : PySem.W.keepIn K (.ref f11) = true)
    (a12 : PySem.W.findIn K (.ref C_Ends) "is_there" = some (some (.ref f12))) (i12 : PySem.W.isFn K (.ref f12) = true) (l12 : K.lookup f12 = some ⟨oc12, od12, .func (PySem.W.fnOf "is_there" "Ends.is_there" (defArgs s_Ends_is_there) (defBody s_Ends_is_there) (defScope s_Ends_is_there) .none kV12 dc12 pm12 an12 cd12 ct12), sl12⟩) (c12 : PySem.W.codeIn K cd12 "Ends.is_there" = true) (k12 : PySem.W.keepIn K (.ref f12) = true)
    (a13 : PySem.W.findIn K (.ref C_Hall) "ask_last" = some (some (.ref f13))) (i13 : PySem.W.isFn K (.ref f13) = true) (l13 : K.lookup f13 = some ⟨oc13, od13, .func (PySem.W.fnOf "ask_last" "Hall.ask_last" (defArgs s_Hall_ask_last) (defBody s_Hall_ask_last) (defScope s_Hall_ask_last) .none kV13 dc13 pm13 an13 cd13 ct13), sl13⟩) (c13 : PySem.W.codeIn K cd13 "Hall.ask_last" = true) (k13 : PySem.W.keepIn K (.ref f13) = true)
    (a14 : PySem.W.findIn K (.ref C_Hall) "turn" = some (some (.ref f14))) (i14 : PySem.W.isFn K (.ref f14) = true) (l14 : K.lookup f14 = some ⟨oc14, od14, .func (PySem.W.fnOf "turn" "Hall.turn" (defArgs s_Hall_turn) (defBody s_Hall_turn) (defScope s_Hall_turn) .none kV14 dc14 pm14 an14 cd14 ct14), sl14⟩) (c14 : PySem.W.codeIn K cd14 "Hall.turn" = true) (k14 : PySem.W.keepIn K (.ref f14) = true)
    (a15 : PySem.W.findIn K (.ref C_Hall) "work" = some (some (.ref f15))) (i15 : PySem.W.isFn K (.ref f15) = true) (l15 : K.lookup f15 = some ⟨oc15, od15, .func (PySem.W.fnOf "work" "Hall.work" (defArgs s_Hall_work) (defBody s_Hall_work) (defScope s_Hall_work) .none kV15 dc15 pm15 an15 cd15 ct15), sl15⟩) (c15 : PySem.W.codeIn K cd15 "Hall.work" = true) (k15 : PySem.W.keepIn K (.ref f15) = true)
    (a16 : PySem.W.findIn K (.ref C_Hall) "put" = some (some (.ref f16))) (i16 : PySem.W.isFn K (.ref f16) = true) (l16 : K.lookup f16 = some ⟨oc16, od16, .func (PySem.W.fnOf "put" "Hall.put" (defArgs s_Hall_put) (defBody s_Hall_put) (defScope s_Hall_put) .none kV16 dc16 pm16 an16 cd16 ct16), sl16⟩) (c16 : PySem.W.codeIn K cd16 "Hall.put" = true) (k16 : PySem.W.keepIn K (.ref f16) = true)
    (a17 : PySem.W.findIn K (.ref C_Hall) "take" = some (some (.ref f17))) (i17 : PySem.W.isFn K (.ref f17) = true) (l17 : K.lookup f17 = some ⟨oc17, od17, .func (PySem.W.fnOf "take" "Hall.take" (defArgs s_Hall_take) (defBody s_Hall_take) (defScope s_Hall_take) .none kV17 dc17 pm17 an17 cd17 ct17), sl17⟩) (c17 : PySem.W.codeIn K cd17 "Hall.take" = true) (k17 : PySem.W.keepIn K (.ref f17) = true)
    (a18 : PySem.W.findIn K (.ref C_Ends) "do" = some (some (.ref f18))) (i18 : PySem.W.isFn K (.ref f18) = true) (l18 : K.lookup f18 = some ⟨oc18, od18, .func (PySem.W.fnOf "do" "Ends.do" (defArgs s_Ends_do) (defBody s_Ends_do) (defScope s_Ends_do) .none kV18 dc18 pm18 an18 cd18 ct18), sl18⟩) (c18 : PySem.W.codeIn K cd18 "Ends.do" = true) (k18 : PySem.W.keepIn K (.ref f18) = true)
    (a19 : PySem.W.findIn K (.ref C_Ends) "last" = some (some (.ref f19))) (i19 : PySem.W.isFn K (.ref f19) = true) (l19 : K.lookup f19 = some ⟨oc19, od19, .func (PySem.W.fnOf "last" "Ends.last" (defArgs s_Ends_last) (defBody s_Ends_last) (defScope s_Ends_last) .none kV19 dc19 pm19 an19 cd19 ct19), sl19⟩) (c19 : PySem.W.codeIn K cd19 "Ends.last" = true) (k19 : PySem.W.keepIn K (.ref f19) = true)
    (a20 : PySem.W.findIn K (.ref C_Hall) "things" = some (some (.ref f20))) (i20 : PySem.W.isFn K (.ref f20) = true) (l20 : K.lookup f20 = some ⟨oc20, od20, .func (PySem.W.fnOf "things" "Hall.things" (defArgs s_Hall_things) (defBody s_Hall_things) (defScope s_Hall_things) .none kV20 dc20 pm20 an20 cd20 ct20), sl20⟩) (c20 : PySem.W.codeIn K cd20 "Hall.things" = true) (k20 : PySem.W.keepIn K (.ref f20) = true)
    (a21 : PySem.W.findIn K (.ref C_Hall) "gone" = some (some (.ref f21))) (i21 : PySem.W.isFn K (.ref f21) = true) (l21 : K.lookup f21 = some ⟨oc21, od21, .func (PySem.W.fnOf "gone" "Hall.gone" (defArgs s_Hall_gone) (defBody s_Hall_gone) (defScope s_Hall_gone) .none kV21 dc21 pm21 an21 cd21 ct21), sl21⟩) (c21 : PySem.W.codeIn K cd21 "Hall.gone" = true) (k21 : PySem.W.keepIn K (.ref f21) = true)
    (a22 : PySem.W.findIn K (.ref C_Ends) "lay" = some (some (.ref f22))) (i22 : PySem.W.isFn K (.ref f22) = true) (l22 : K.lookup f22 = some ⟨oc22, od22, .func (PySem.W.fnOf "lay" "Ends.lay" (defArgs s_Ends_lay) (defBody s_Ends_lay) (defScope s_Ends_lay) .none kV22 dc22 pm22 an22 cd22 ct22), sl22⟩) (c22 : PySem.W.codeIn K cd22 "Ends.lay" = true) (k22 : PySem.W.keepIn K (.ref f22) = true)
    (a23 : PySem.W.findIn K (.ref C_Ends) "asked" = some (some (.ref f23))) (i23 : PySem.W.isFn K (.ref f23) = true) (l23 : K.lookup f23 = some ⟨oc23, od23, .func (PySem.W.fnOf "asked" "Ends.asked" (defArgs s_Ends_asked) (defBody s_Ends_asked) (defScope s_Ends_asked) .none kV23 dc23 pm23 an23 cd23 ct23), sl23⟩) (c23 : PySem.W.codeIn K cd23 "Ends.asked" = true) (k23 : PySem.W.keepIn K (.ref f23) = true)
    (a24 : PySem.W.findIn K (.ref C_Hall) "at_work" = some (some (.ref f24))) (i24 : PySem.W.isFn K (.ref f24) = true) (l24 : K.lookup f24 = some ⟨oc24, od24, .func (PySem.W.fnOf "at_work" "Hall.at_work" (defArgs s_Hall_at_work) (defBody s_Hall_at_work) (defScope s_Hall_at_work) .none kV24 dc24 pm24 an24 cd24 ct24), sl24⟩) (c24 : PySem.W.codeIn K cd24 "Hall.at_work" = true) (k24 : PySem.W.keepIn K (.ref f24) = true)
    (a25 : PySem.W.findIn K (.ref C_Hall) "let_all_go" = some (some (.ref f25))) (i25 : PySem.W.isFn K (.ref f25) = true) (l25 : K.lookup f25 = some ⟨oc25, od25, .func (PySem.W.fnOf "let_all_go" "Hall.let_all_go" (defArgs s_Hall_let_all_go) (defBody s_Hall_let_all_go) (defScope s_Hall_let_all_go) .none kV25 dc25 pm25 an25 cd25 ct25), sl25⟩) (c25 : PySem.W.codeIn K cd25 "Hall.let_all_go" = true) (k25 : PySem.W.keepIn K (.ref f25) = true)
    (a26 : PySem.W.nsIn K mainGlobals "led_to" = some (some (.ref f26))) (l26 : K.lookup f26 = some ⟨oc26, od26, .func (PySem.W.fnOf "led_to" "led_to" (defArgs s_led_to) (defBody s_led_to) (defScope s_led_to) .none kV26 dc26 pm26 an26 cd26 ct26), sl26⟩) (c26 : PySem.W.codeIn K cd26 "led_to" = true) (k26 : PySem.W.keepIn K (.ref f26) = true)
    (a27 : PySem.W.nsIn K mainGlobals "reached" = some (some (.ref f27))) (l27 : K.lookup f27 = some ⟨oc27, od27, .func (PySem.W.fnOf "reached" "reached" (defArgs s_reached) (defBody s_reached) (defScope s_reached) .none kV27 dc27 pm27 an27 cd27 ct27), sl27⟩) (c27 : PySem.W.codeIn K cd27 "reached" = true) (k27 : PySem.W.keepIn K (.ref f27) = true)
    (a28 : PySem.W.nsIn K mainGlobals "without" = some (some (.ref f28))) (l28 : K.lookup f28 = some ⟨oc28, od28, .func (PySem.W.fnOf "without" "without" (defArgs s_without) (defBody s_without) (defScope s_without) .none kV28 dc28 pm28 an28 cd28 ct28), sl28⟩) (c28 : PySem.W.codeIn K cd28 "without" = true) (k28 : PySem.W.keepIn K (.ref f28) = true)
    (a29 : PySem.W.nsIn K mainGlobals "others_there" = some (some (.ref f29))) (l29 : K.lookup f29 = some ⟨oc29, od29, .func (PySem.W.fnOf "others_there" "others_there" (defArgs s_others_there) (defBody s_others_there) (defScope s_others_there) .none kV29 dc29 pm29 an29 cd29 ct29), sl29⟩) (c29 : PySem.W.codeIn K cd29 "others_there" = true) (k29 : PySem.W.keepIn K (.ref f29) = true)
    (a30 : PySem.W.nsIn K mainGlobals "swept" = some (some (.ref f30))) (l30 : K.lookup f30 = some ⟨oc30, od30, .func (PySem.W.fnOf "swept" "swept" (defArgs s_swept) (defBody s_swept) (defScope s_swept) .none kV30 dc30 pm30 an30 cd30 ct30), sl30⟩) (c30 : PySem.W.codeIn K cd30 "swept" = true) (k30 : PySem.W.keepIn K (.ref f30) = true)
    (a31 : PySem.W.nsIn K mainGlobals "_law_mixed" = some (some (.ref f31))) (l31 : K.lookup f31 = some ⟨oc31, od31, .func (PySem.W.fnOf "_law_mixed" "_law_mixed" (defArgs s__law_mixed) (defBody s__law_mixed) (defScope s__law_mixed) .none kV31 dc31 pm31 an31 cd31 ct31), sl31⟩) (c31 : PySem.W.codeIn K cd31 "_law_mixed" = true) (k31 : PySem.W.keepIn K (.ref f31) = true)
    (a32 : PySem.W.nsIn K mainGlobals "_law_well" = some (some (.ref f32))) (l32 : K.lookup f32 = some ⟨oc32, od32, .func (PySem.W.fnOf "_law_well" "_law_well" (defArgs s__law_well) (defBody s__law_well) (defScope s__law_well) .none kV32 dc32 pm32 an32 cd32 ct32), sl32⟩) (c32 : PySem.W.codeIn K cd32 "_law_well" = true) (k32 : PySem.W.keepIn K (.ref f32) = true)
    (a33 : PySem.W.nsIn K mainGlobals "_law_dig" = some (some (.ref f33))) (l33 : K.lookup f33 = some ⟨oc33, od33, .func (PySem.W.fnOf "_law_dig" "_law_dig" (defArgs s__law_dig) (defBody s__law_dig) (defScope s__law_dig) .none kV33 dc33 pm33 an33 cd33 ct33), sl33⟩) (c33 : PySem.W.codeIn K cd33 "_law_dig" = true) (k33 : PySem.W.keepIn K (.ref f33) = true)
    (a34 : PySem.W.nsIn K mainGlobals "_law_ring" = some (some (.ref f34))) (l34 : K.lookup f34 = some ⟨oc34, od34, .func (PySem.W.fnOf "_law_ring" "_law_ring" (defArgs s__law_ring) (defBody s__law_ring) (defScope s__law_ring) .none kV34 dc34 pm34 an34 cd34 ct34), sl34⟩) (c34 : PySem.W.codeIn K cd34 "_law_ring" = true) (k34 : PySem.W.keepIn K (.ref f34) = true)
    (a35 : PySem.W.nsIn K mainGlobals "law" = some (some (.ref f35))) (l35 : K.lookup f35 = some ⟨oc35, od35, .func (PySem.W.fnOf "law" "law" (defArgs s_law) (defBody s_law) (defScope s_law) .none kV35 dc35 pm35 an35 cd35 ct35), sl35⟩) (c35 : PySem.W.codeIn K cd35 "law" = true) (k35 : PySem.W.keepIn K (.ref f35) = true)
    (z1 : PySem.W.nsIn K mainGlobals "len" = some none)
    (z2 : PySem.W.nsIn K mainGlobals "int" = some none)
    (z3 : PySem.W.nsIn K mainGlobals "range" = some none)
    (z4 : PySem.W.nsIn K mainGlobals "str" = some none)
    (z5 : PySem.W.nsIn K mainGlobals "isinstance" = some none)
    (z6 : PySem.W.nsIn K mainGlobals "bool" = some none)
    (z7 : PySem.W.nsIn K mainGlobals "sorted" = some none)
    (z8 : PySem.W.nsIn K mainGlobals "list" = some none)
    (z9 : PySem.W.nsIn K mainGlobals "enumerate" = some none)
    (z10 : PySem.W.nsIn K mainGlobals "dict" = some none)
    (z11 : PySem.W.nsIn K mainGlobals "min" = some none)
    (z12 : PySem.W.nsIn K mainGlobals "all" = some none)
    (z13 : PySem.W.nsIn K mainGlobals "tuple" = some none)
    (z14 : PySem.W.nsIn K mainGlobals "set" = some none)
    (z15 : PySem.W.nsIn K mainGlobals "sum" = some none)
    (z16 : PySem.W.nsIn K mainGlobals "abs" = some none)
    (q1 : PySem.W.findIn K (.ref C_Thing) "__eq__" = some (some (.builtin "object.__eq__")))
    (q2 : PySem.W.subIn K (.type "NoneType") (.ref C_Thing) = some false)
    (q3 : PySem.W.subIn K (.type "bool") (.ref C_Thing) = some false)
    (q4 : PySem.W.subIn K (.type "str") (.ref C_Thing) = some false)
    (q5 : PySem.W.subIn K (.ref C_Thing) (.type "NoneType") = some false)
    (q6 : PySem.W.subIn K (.ref C_Thing) (.type "bool") = some false)
    (q7 : PySem.W.subIn K (.ref C_Thing) (.type "str") = some false) :
    ∃ fd : FuncData, (∀ (s : Shared) (v : Value), BindsTo s fd ⟨[v], []⟩ [("_law_script", v)]) ∧ ∀ base : Heap, K.In base → base.Ns mainGlobals mg → FnOk l.prog w K mg base CX0 114 fa fd ["_law_script"] (spLaw K) := by
  have e := hfa.symm.trans (PySem.W.mg_of X G a35)
  cases e
  have T : TxB K mg C_Thing C_Hall C_Ends C_Held := ⟨⟨⟨PySem.W.mg_none_of X G z1, PySem.W.mg_none_of X G z2, PySem.W.mg_none_of X G z3, PySem.W.mg_none_of X G z4, PySem.W.mg_none_of X G z5, PySem.W.mg_none_of X G z6, PySem.W.mg_none_of X G z7, PySem.W.mg_none_of X G z8, PySem.W.mg_none_of X G z9, PySem.W.mg_none_of X G z10, PySem.W.mg_none_of X G z11, PySem.W.mg_none_of X G z12, PySem.W.mg_none_of X G z13, PySem.W.mg_none_of X G z14, PySem.W.mg_none_of X G z15, ⟨.ref C_Thing, _, PySem.W.mg_of X G aC_Thing, rfl, fun _ => .ref _⟩, ⟨⟨pg_Thing, hd_Thing, po_Thing, sa_Thing⟩, DL.nF_cons nf_Thing_form (DL.nF_cons nf_Thing_number (DL.nF_cons nf_Thing_count (DL.nF_cons nf_Thing_parts (DL.nF_cons nf_Thing_own (DL.nF_cons nf_Thing_ended (DL.nF_cons nf_Thing_waits (DL.nF_nil)))))))⟩, ⟨⟨pg_Hall, hd_Hall, po_Hall, sa_Hall⟩, DL.nF_cons nf_Hall_ender (DL.nF_cons nf_Hall_many (DL.nF_cons nf_Hall_there (DL.nF_cons nf_Hall_left (DL.nF_cons nf_Hall_row (DL.nF_cons nf_Hall_lasts (DL.nF_nil))))))⟩, ⟨⟨pg_Thing, hd_Thing, po_Thing, sa_Thing⟩, iA_Thing, iB_Thing, iC_Thing, iD_Thing, it0_Thing, it1_Thing, it2_Thing, if0_Thing, if1_Thing, if2_Thing, if3_Thing⟩⟩, ⟨⟨pg_Ends, hd_Ends, po_Ends, sa_Ends⟩, DL.nF_cons nf_Ends_hall (DL.nF_cons nf_Ends_plans (DL.nF_cons nf_Ends_numbers (DL.nF_cons nf_Ends_holds (DL.nF_nil))))⟩, ⟨iD_Thing, q1, q2, q3, q4, q5, q6, q7⟩⟩, ⟨⟨PySem.W.mg_none_of X G z1, PySem.W.mg_none_of X G z2, PySem.W.mg_none_of X G z3, PySem.W.mg_none_of X G z4, PySem.W.mg_none_of X G z5, PySem.W.mg_none_of X G z6, PySem.W.mg_none_of X G z7, PySem.W.mg_none_of X G z8, PySem.W.mg_none_of X G z9, PySem.W.mg_none_of X G z10, PySem.W.mg_none_of X G z11, PySem.W.mg_none_of X G z12, PySem.W.mg_none_of X G z13, PySem.W.mg_none_of X G z14, PySem.W.mg_none_of X G z15, ⟨.ref C_Thing, _, PySem.W.mg_of X G aC_Thing, rfl, fun _ => .ref _⟩, ⟨⟨pg_Thing, hd_Thing, po_Thing, sa_Thing⟩, DL.nF_cons nf_Thing_form (DL.nF_cons nf_Thing_number (DL.nF_cons nf_Thing_count (DL.nF_cons nf_Thing_parts (DL.nF_cons nf_Thing_own (DL.nF_cons nf_Thing_ended (DL.nF_cons nf_Thing_waits (DL.nF_nil)))))))⟩, ⟨⟨pg_Hall, hd_Hall, po_Hall, sa_Hall⟩, DL.nF_cons nf_Hall_ender (DL.nF_cons nf_Hall_many (DL.nF_cons nf_Hall_there (DL.nF_cons nf_Hall_left (DL.nF_cons nf_Hall_row (DL.nF_cons nf_Hall_lasts (DL.nF_nil))))))⟩, ⟨⟨pg_Thing, hd_Thing, po_Thing, sa_Thing⟩, iA_Thing, iB_Thing, iC_Thing, iD_Thing, it0_Thing, it1_Thing, it2_Thing, if0_Thing, if1_Thing, if2_Thing, if3_Thing⟩⟩, ⟨.ref C_Held, _, PySem.W.mg_of X G aC_Held, rfl, fun _ => .ref _⟩, ⟨⟨pg_Held, hd_Held, po_Held, sa_Held⟩, DL.nF_cons nf_Held_has (DL.nF_nil)⟩, ⟨⟨pg_Held, hd_Held, po_Held, sa_Held⟩, iA_Held, iB_Held, iC_Held, iD_Held, it0_Held, it1_Held, it2_Held, if0_Held, if1_Held, if2_Held, if3_Held⟩⟩⟩
  have F1 := fun_mk (st := s_Thing___init__) l1 c1 k1
  have b1 := F1.binds (ps := ["self", "form", "number", "own"]) fun _ _ _ _ _ _ us hl => match us, hl with | [_, _, _, _], _ => rfl
  have F2 := fun_mk (st := s_Held___init__) l2 c2 k2
  have b2 := F2.binds (ps := ["self", "values"]) fun _ _ _ _ _ _ us hl => match us, hl with | [_, _], _ => rfl
  have F3 := fun_mk (st := s_Held_held) l3 c3 k3
  have b3 := F3.binds (ps := ["self"]) fun _ _ _ _ _ _ us hl => match us, hl with | [_], _ => rfl
  have F4 := fun_mk (st := s_Hall___init__) l4 c4 k4
  have b4 := F4.binds (ps := ["self", "ender"]) fun _ _ _ _ _ _ us hl => match us, hl with | [_, _], _ => rfl
  have F5 := fun_mk (st := s_Ends___init__) l5 c5 k5
  have b5 := F5.binds (ps := ["self"]) fun _ _ _ _ _ _ us hl => match us, hl with | [_], _ => rfl
  have F6 := fun_mk (st := s_Hall_make) l6 c6 k6
  have b6 := F6.binds (ps := ["self", "form", "own"]) fun _ _ _ _ _ _ us hl => match us, hl with | [_, _, _], _ => rfl
  have F7 := fun_mk (st := s_Hall_hold) l7 c7 k7
  have b7 := F7.binds (ps := ["self", "value"]) fun _ _ _ _ _ _ us hl => match us, hl with | [_, _], _ => rfl
  have F8 := fun_mk (st := s_Hall_let_go) l8 c8 k8
  have b8 := F8.binds (ps := ["self", "thing"]) fun _ _ _ _ _ _ us hl => match us, hl with | [_, _], _ => rfl
  have F9 := fun_mk (st := s_Hall_loose) l9 c9 k9
  have b9 := F9.binds (ps := ["self", "value"]) fun _ _ _ _ _ _ us hl => match us, hl with | [_, _], _ => rfl
  have F10 := fun_mk (st := s_Hall_empty) l10 c10 k10
  have b10 := F10.binds (ps := ["self", "thing"]) fun _ _ _ _ _ _ us hl => match us, hl with | [_, _], _ => rfl
  have F11 := fun_mk (st := s_Hall_be_gone) l11 c11 k11
  have b11 := F11.binds (ps := ["self", "thing"]) fun _ _ _ _ _ _ us hl => match us, hl with | [_, _], _ => rfl
  have F12 := fun_mk (st := s_Ends_is_there) l12 c12 k12
  have b12 := F12.binds (ps := ["self", "value"]) fun _ _ _ _ _ _ us hl => match us, hl with | [_, _], _ => rfl
  have F13 := fun_mk (st := s_Hall_ask_last) l13 c13 k13
  have b13 := F13.binds (ps := ["self", "thing"]) fun _ _ _ _ _ _ us hl => match us, hl with | [_, _], _ => rfl
  have F14 := fun_mk (st := s_Hall_turn) l14 c14 k14
  have b14 := F14.binds (ps := ["self", "thing"]) fun _ _ _ _ _ _ us hl => match us, hl with | [_, _], _ => rfl
  have F15 := fun_mk (st := s_Hall_work) l15 c15 k15
  have b15 := F15.binds (ps := ["self"]) fun _ _ _ _ _ _ us hl => match us, hl with | [_], _ => rfl
  have F16 := fun_mk (st := s_Hall_put) l16 c16 k16
  have b16 := F16.binds (ps := ["self", "thing", "key", "value"]) fun _ _ _ _ _ _ us hl => match us, hl with | [_, _, _, _], _ => rfl
  have F17 := fun_mk (st := s_Hall_take) l17 c17 k17
  have b17 := F17.binds (ps := ["self", "thing", "key"]) fun _ _ _ _ _ _ us hl => match us, hl with | [_, _, _], _ => rfl
  have F18 := fun_mk (st := s_Ends_do) l18 c18 k18
  have b18 := F18.binds (ps := ["self", "deed"]) fun _ _ _ _ _ _ us hl => match us, hl with | [_, _], _ => rfl
  have F19 := fun_mk (st := s_Ends_last) l19 c19 k19
  have b19 := F19.binds (ps := ["self", "thing"]) fun _ _ _ _ _ _ us hl => match us, hl with | [_, _], _ => rfl
  have F20 := fun_mk (st := s_Hall_things) l20 c20 k20
  have b20 := F20.binds (ps := ["self"]) fun _ _ _ _ _ _ us hl => match us, hl with | [_], _ => rfl
  have F21 := fun_mk (st := s_Hall_gone) l21 c21 k21
  have b21 := F21.binds (ps := ["self"]) fun _ _ _ _ _ _ us hl => match us, hl with | [_], _ => rfl
  have F22 := fun_mk (st := s_Ends_lay) l22 c22 k22
  have b22 := F22.binds (ps := ["self", "hall"]) fun _ _ _ _ _ _ us hl => match us, hl with | [_, _], _ => rfl
  have F23 := fun_mk (st := s_Ends_asked) l23 c23 k23
  have b23 := F23.binds (ps := ["self"]) fun _ _ _ _ _ _ us hl => match us, hl with | [_], _ => rfl
  have F24 := fun_mk (st := s_Hall_at_work) l24 c24 k24
  have b24 := F24.binds (ps := ["self"]) fun _ _ _ _ _ _ us hl => match us, hl with | [_], _ => rfl
  have F25 := fun_mk (st := s_Hall_let_all_go) l25 c25 k25
  have b25 := F25.binds (ps := ["self", "things"]) fun _ _ _ _ _ _ us hl => match us, hl with | [_, _], _ => rfl
  have F26 := fun_mk (st := s_led_to) l26 c26 k26
  have b26 := F26.binds (ps := ["thing"]) fun _ _ _ _ _ _ us hl => match us, hl with | [_], _ => rfl
  have F27 := fun_mk (st := s_reached) l27 c27 k27
  have b27 := F27.binds (ps := ["hall", "roots"]) fun _ _ _ _ _ _ us hl => match us, hl with | [_, _], _ => rfl
  have F28 := fun_mk (st := s_without) l28 c28 k28
  have b28 := F28.binds (ps := ["hall", "things", "roots"]) fun _ _ _ _ _ _ us hl => match us, hl with | [_, _, _], _ => rfl
  have F29 := fun_mk (st := s_others_there) l29 c29 k29
  have b29 := F29.binds (ps := ["hall", "things"]) fun _ _ _ _ _ _ us hl => match us, hl with | [_, _], _ => rfl
  have F30 := fun_mk (st := s_swept) l30 c30 k30
  have b30 := F30.binds (ps := ["hall", "around"]) fun _ _ _ _ _ _ us hl => match us, hl with | [_, _], _ => rfl
  have F31 := fun_mk (st := s__law_mixed) l31 c31 k31
  have b31 := F31.binds (ps := ["_law_number", "_law_k"]) fun _ _ _ _ _ _ us hl => match us, hl with | [_, _], _ => rfl
  have F32 := fun_mk (st := s__law_well) l32 c32 k32
  have b32 := F32.binds (ps := ["_law_script", "_law_first"]) fun _ _ _ _ _ _ us hl => match us, hl with | [_, _], _ => rfl
  have F33 := fun_mk (st := s__law_dig) l33 c33 k33
  have b33 := F33.binds (ps := ["_law_well_here", "_law_most"]) fun _ _ _ _ _ _ us hl => match us, hl with | [_, _], _ => rfl
  have F34 := fun_mk (st := s__law_ring) l34 c34 k34
  have b34 := F34.binds (ps := ["_law_well_here", "_law_hall", "_law_size"]) fun _ _ _ _ _ _ us hl => match us, hl with | [_, _, _], _ => rfl
  have F35 := fun_mk (st := s_law) l35 c35 k35
  refine ⟨PySem.W.fnOf "law" "law" (defArgs s_law) (defBody s_law) (defScope s_law) .none kV35 dc35 pm35 an35 cd35 ct35, fun s v => .of_eq rfl, fun base _ _ => ?_⟩
  have G_mk_Thing : DL.MkDef l.prog w K mg base _ "Thing" C_Thing ["self", "form", "number", "own"] _ := ⟨f1, _, ⟨mk_Thing, a1, i1, kc_Thing⟩, ok_thinit F1 T.e.toTxt, PySem.W.mg_of X G aC_Thing, b1⟩
  have G_mk_Held : DL.MkDef l.prog w K mg base _ "Held" C_Held ["self", "values"] _ := ⟨f2, _, ⟨mk_Held, a2, i2, kc_Held⟩, ok_heinit F2 T.w, PySem.W.mg_of X G aC_Held, b2⟩
  have G_Held_held : DL.MDef l.prog w K mg base _ C_Held "held" ["self"] _ := ⟨f3, _, ok_held F3 T.w, ⟨a3, i3, k3⟩, b3⟩
  have G_mk_Hall : DL.MkDef l.prog w K mg base _ "Hall" C_Hall ["self", "ender"] _ := ⟨f4, _, ⟨mk_Hall, a4, i4, kc_Hall⟩, ok_hainit F4 T.e.toTxt, PySem.W.mg_of X G aC_Hall, b4⟩
  have G_mk_Ends : DL.MkDef l.prog w K mg base _ "Ends" C_Ends ["self"] _ := ⟨f5, _, ⟨mk_Ends, a5, i5, kc_Ends⟩, ok_eninit F5 T.e, PySem.W.mg_of X G aC_Ends, b5⟩
  have G_Hall_make : DL.MDef l.prog w K mg base _ C_Hall "make" ["self", "form", "own"] _ := ⟨f6, _, x_of (CE := C_Ends) fun I hI => ok_make (en := I.en C_Ends) F6 T.e.toTxt G_mk_Thing, ⟨a6, i6, k6⟩, b6⟩
  have G_Hall_hold : DL.MDef l.prog w K mg base _ C_Hall "hold" ["self", "value"] _ := ⟨f7, _, x_of (CE := C_Ends) fun I hI => ok_hold (en := I.en C_Ends) F7 T.e.toTxt, ⟨a7, i7, k7⟩, b7⟩
  have G_Hall_let_go : DL.MDef l.prog w K mg base _ C_Hall "let_go" ["self", "thing"] _ := ⟨f8, _, x_of (CE := C_Ends) fun I hI => ok_let_in (en := I.en C_Ends) F8 T.e.toTxt, ⟨a8, i8, k8⟩, b8⟩
  have G_Hall_loose : DL.MDef l.prog w K mg base _ C_Hall "loose" ["self", "value"] _ := ⟨f9, _, x_of (CE := C_Ends) fun I hI => ok_loose_in (en := I.en C_Ends) F9 T.e.toTxt (G_Hall_let_go.x hI), ⟨a9, i9, k9⟩, b9⟩
  have G_Hall_empty : DL.MDef l.prog w K mg base _ C_Hall "empty" ["self", "thing"] _ := ⟨f10, _, x_of (CE := C_Ends) fun I hI => ok_empty (en := I.en C_Ends) F10 T.e.toTxt (G_Hall_loose.x hI), ⟨a10, i10, k10⟩, b10⟩
  have G_Hall_be_gone : DL.MDef l.prog w K mg base _ C_Hall "be_gone" ["self", "thing"] _ := ⟨f11, _, x_of (CE := C_Ends) fun I hI => ok_be_gone (en := I.en C_Ends) F11 T.e.toTxt, ⟨a11, i11, k11⟩, b11⟩
  have G_Ends_is_there : DL.MDef l.prog w K mg base _ C_Ends "is_there" ["self", "value"] _ := ⟨f12, _, ok_is_there F12 T.e, ⟨a12, i12, k12⟩, b12⟩
  have AX := ask_x (P := l.prog) (w := w) (base := base) T.e G_Hall_hold G_Hall_make G_Hall_be_gone G_Hall_empty G_Ends_is_there ⟨F14, ⟨a14, i14, k14⟩, b14⟩ ⟨F15, ⟨a15, i15, k15⟩, b15⟩ ⟨F8, ⟨a8, i8, k8⟩, b8⟩ ⟨F9, ⟨a9, i9, k9⟩, b9⟩ ⟨F16, ⟨a16, i16, k16⟩, b16⟩ ⟨F17, ⟨a17, i17, k17⟩, b17⟩ ⟨F13, ⟨a13, i13, k13⟩, b13⟩ ⟨F18, ⟨a18, i18, k18⟩, b18⟩ ⟨F19, ⟨a19, i19, k19⟩, b19⟩ 13
  have HX := hall_x (P := l.prog) (w := w) (base := base) T.e G_Hall_hold G_Hall_be_gone G_Hall_empty ⟨F14, ⟨a14, i14, k14⟩, b14⟩ ⟨F15, ⟨a15, i15, k15⟩, b15⟩ ⟨F8, ⟨a8, i8, k8⟩, b8⟩ ⟨F9, ⟨a9, i9, k9⟩, b9⟩ ⟨F16, ⟨a16, i16, k16⟩, b16⟩ ⟨F17, ⟨a17, i17, k17⟩, b17⟩ AX
  have G_Hall_things : DL.MDef l.prog w K mg base _ C_Hall "things" ["self"] _ := ⟨f20, _, x_of (CE := C_Ends) fun I hI => ok_things (en := I.en C_Ends) F20 T.e.toTxt, ⟨a20, i20, k20⟩, b20⟩
  have G_Hall_gone : DL.MDef l.prog w K mg base _ C_Hall "gone" ["self"] _ := ⟨f21, _, x_of (CE := C_Ends) fun I hI => ok_gone (en := I.en C_Ends) F21 T.e.toTxt, ⟨a21, i21, k21⟩, b21⟩
  have G_Ends_lay : DL.MDef l.prog w K mg base _ C_Ends "lay" ["self", "hall"] _ := ⟨f22, _, ok_enlay F22 T.e, ⟨a22, i22, k22⟩, b22⟩
  have G_Ends_asked : DL.MDef l.prog w K mg base _ C_Ends "asked" ["self"] _ := ⟨f23, _, ok_enasked F23 T.e, ⟨a23, i23, k23⟩, b23⟩
  have G_Hall_at_work : DL.MDef l.prog w K mg base _ C_Hall "at_work" ["self"] _ := ⟨f24, _, x_of (CE := C_Ends) fun I hI => ok_at_work (en := I.en C_Ends) F24 T.e.toTxt, ⟨a24, i24, k24⟩, b24⟩
  have G_Hall_let_all_go : DL.MDef l.prog w K mg base _ C_Hall "let_all_go" ["self", "things"] _ := ⟨f25, _, x_of (CE := C_Ends) fun I hI => ok_all_go (L := 109) (by decide) F25 T.e.toTxt (G_Hall_be_gone.x hI) (G_Hall_empty.x hI) (HX.work.x hI), ⟨a25, i25, k25⟩, b25⟩
  have G_led_to : Def l.prog w K mg base _ "led_to" ["thing"] _ := ⟨f26, _, x_of (CE := C_Ends) fun I hI => ok_ledto (en := I.en C_Ends) F26 T.w G_Held_held, PySem.W.mg_of X G a26, k26, b26⟩
  have G_reached : Def l.prog w K mg base _ "reached" ["hall", "roots"] _ := ⟨f27, _, x_of (CE := C_Ends) fun I hI => ok_reached F27 T.w (G_led_to.x hI), PySem.W.mg_of X G a27, k27, b27⟩
  have G_without : Def l.prog w K mg base _ "without" ["hall", "things", "roots"] _ := ⟨f28, _, x_of (CE := C_Ends) fun I hI => ok_without F28 T.w (G_reached.x hI), PySem.W.mg_of X G a28, k28, b28⟩
  have G_others_there : Def l.prog w K mg base _ "others_there" ["hall", "things"] _ := ⟨f29, _, x_of (CE := C_Ends) fun I hI => ok_others F29 T.e.toTxt (G_Hall_things.x hI), PySem.W.mg_of X G a29, k29, b29⟩
  have G_swept : Def l.prog w K mg base _ "swept" ["hall", "around"] _ := ⟨f30, _, x_of (CE := C_Ends) fun I hI => (ok_swept (HM.askD_e I.pl I.mp 13).acl (by decide : 4 ≤ 107) F30 T.w (G_Hall_at_work.x hI) (G_Hall_things.x hI) (G_without.x hI) G_Held_held (G_Hall_hold.x hI) (AX.x hI) (G_others_there.x hI) (G_Hall_let_all_go.x hI)).mono (by decide : 111 ≤ 112), PySem.W.mg_of X G a30, k30, b30⟩
  have G__law_mixed : Def l.prog w K mg base _ "_law_mixed" ["_law_number", "_law_k"] _ := ⟨f31, _, ok_mixed F31, PySem.W.mg_of X G a31, k31, b31⟩
  have G__law_well : Def l.prog w K mg base _ "_law_well" ["_law_script", "_law_first"] _ := ⟨f32, _, ok_well F32 ⟨PySem.W.mg_none_of X G z1, PySem.W.mg_none_of X G z16⟩, PySem.W.mg_of X G a32, k32, b32⟩
  have G__law_dig : Def l.prog w K mg base _ "_law_dig" ["_law_well_here", "_law_most"] _ := ⟨f33, _, ok_dig F33 ⟨PySem.W.mg_none_of X G z1, PySem.W.mg_none_of X G z16⟩ G__law_mixed, PySem.W.mg_of X G a33, k33, b33⟩
  have G__law_ring : Def l.prog w K mg base _ "_law_ring" ["_law_well_here", "_law_hall", "_law_size"] _ := ⟨f34, _, ok_ring F34 T.e G__law_dig G_Hall_make HX.put, PySem.W.mg_of X G a34, k34, b34⟩
  exact law_of (ok_law29 F35 T.e T.w G_mk_Hall G_mk_Ends G_Ends_lay G_mk_Held G_Hall_hold HX.loose HX.put G_Hall_things G_Hall_gone G_Ends_asked G_swept G__law_well G__law_dig G__law_ring)
theorem walk {l : PySem.W.OpenLaw} {q : Program} {loose : List Str} {XP : (Str → Option Value) → Heap → Prop} {YP : World → Heap → Prop} {d : DefRec} {K : Params → PySem.W.Frag} (hn : l.most = some 63) (hdf : d.params.defaults = [])
    (hY : ∀ (w : World) (h : Heap), YP w h → (K w.params).In h)
    (F : ∀ (w : World) (mg : Str → Option Value) (fa : Addr) (h : Heap), (K w.params).In h → h.Ns mainGlobals mg → mg d.name = some (.ref fa) →
      ∃ fd : FuncData, (∀ (s : Shared) (u : Value), BindsTo s fd ⟨[u], []⟩ [("_law_script", u)]) ∧ ∀ base : Heap, (K w.params).In base → base.Ns mainGlobals mg → FnOk l.prog w (K w.params) mg base CX0 114 fa fd ["_law_script"] (spLaw (K w.params))) :
    PySem.W.WalkO q loose XP YP l.row.toRowW d [] (fun f vs => PySem.call f vs) :=
  L2.walk_of (n := 63) (k := 114) (x := "_law_script") (CX := fun _ => CX0) (sp := fun w => spLaw (K w.params)) hn (by decide) hdf ⟨rfl, by decide, by decide⟩ hY F (fun _ _ a ns hl _ hS => ⟨a, ns, rfl, hS, hl, fun _ => rfl⟩) fun _ _ _ _ _ z => z
end
end K
open PySem PySem.W PyProof.Rows
set_option maxRecDepth 100000 in
set_option maxHeartbeats 0 in
theorem PySem.Challenge.cw_snakehall_k29_rings_holds : PySem.Challenge.rw_snakehall_k29_rings.Holds := by
  w_on; o_law; k_head; (case hw => w_witness2)
  k_fill
  refine K.walk (l := PySem.Challenge.rw_snakehall_k29_rings) rfl rfl (fun w h Y => PySem.W.kIn_of Y) ?F
  case F =>
    intro w mg fa h KX G hmg
    refine' K.all_mk KX G hmg ?aC_Thing ?pg_Thing ?hd_Thing ?po_Thing ?sa_Thing ?mk_Thing ?kc_Thing ?nf_Thing_form ?nf_Thing_number ?nf_Thing_count ?nf_Thing_parts ?nf_Thing_own ?nf_Thing_ended ?nf_Thing_waits ?iA_Thing ?iB_Thing ?iC_Thing ?iD_Thing ?it0_Thing ?it1_Thing ?it2_Thing ?if0_Thing ?if1_Thing ?if2_Thing ?if3_Thing ?aC_Held ?pg_Held ?hd_Held ?po_Held ?sa_Held ?mk_Held ?kc_Held ?nf_Held_has ?iA_Held ?iB_Held ?iC_Held ?iD_Held ?it0_Held ?it1_Held ?it2_Held ?if0_Held ?if1_Held ?if2_Held ?if3_Held ?aC_Hall ?pg_Hall ?hd_Hall ?po_Hall ?sa_Hall ?mk_Hall ?kc_Hall ?nf_Hall_ender ?nf_Hall_many ?nf_Hall_there ?nf_Hall_left ?nf_Hall_row ?nf_Hall_lasts ?aC_Ends ?pg_Ends ?hd_Ends ?po_Ends ?sa_Ends ?mk_Ends ?kc_Ends ?nf_Ends_hall ?nf_Ends_plans ?nf_Ends_numbers ?nf_Ends_holds ?a1 ?i1 ?l1 ?c1 ?k1 ?a2 ?i2 ?l2 ?c2 ?k2 ?a3 ?i3 ?l3 ?c3 ?k3 ?a4 ?i4 ?l4 ?c4 ?k4 ?a5 ?i5 ?l5 ?c5 ?k5 ?a6 ?i6 ?l6 ?c6 ?k6 ?a7 ?i7 ?l7 ?c7 ?k7 ?a8 ?i8 ?l8 ?c8 ?k8 ?a9 ?i9 ?l9 ?c9 ?k9 ?a10 ?i10 ?l10 ?c10 ?k10 ?a11 ?i11 ?l11 ?c11 ?k11 ?a12 ?i12 ?l12 ?c12 ?k12 ?a13 ?i13 ?l13 ?c13 ?k13 ?a14 ?i14 ?l14 ?c14 ?k14 ?a15 ?i15 ?l15 ?c15 ?k15 ?a16 ?i16 ?l16 ?c16 ?k16 ?a17 ?i17 ?l17 ?c17 ?k17 ?a18 ?i18 ?l18 ?c18 ?k18 ?a19 ?i19 ?l19 ?c19 ?k19 ?a20 ?i20 ?l20 ?c20 ?k20 ?a21 ?i21 ?l21 ?c21 ?k21 ?a22 ?i22 ?l22 ?c22 ?k22 ?a23 ?i23 ?l23 ?c23 ?k23 ?a24 ?i24 ?l24 ?c24 ?k24 ?a25 ?i25 ?l25 ?c25 ?k25 ?a26 ?l26 ?c26 ?k26 ?a27 ?l27 ?c27 ?k27 ?a28 ?l28 ?c28 ?k28 ?a29 ?l29 ?c29 ?k29 ?a30 ?l30 ?c30 ?k30 ?a31 ?l31 ?c31 ?k31 ?a32 ?l32 ?c32 ?k32 ?a33 ?l33 ?c33 ?k33 ?a34 ?l34 ?c34 ?k34 ?a35 ?l35 ?c35 ?k35 ?z1 ?z2 ?z3 ?z4 ?z5 ?z6 ?z7 ?z8 ?z9 ?z10 ?z11 ?z12 ?z13 ?z14 ?z15 ?z16 ?q1 ?q2 ?q3 ?q4 ?q5 ?q6 ?q7
    (case aC_Thing => k_is)
    (case pg_Thing => k_is)
    (case hd_Thing => k_is)
    (case po_Thing => k_is)
    (case sa_Thing => k_is)
    (case mk_Thing => k_is)
    (case kc_Thing => k_is)
    (case nf_Thing_form => k_is)
    (case nf_Thing_number => k_is)
    (case nf_Thing_count => k_is)
    (case nf_Thing_parts => k_is)
    (case nf_Thing_own => k_is)
    (case nf_Thing_ended => k_is)
    (case nf_Thing_waits => k_is)
    (case iA_Thing => k_is)
    (case iB_Thing => k_is)
    (case iC_Thing => k_is)
    (case iD_Thing => k_is)
    (case it0_Thing => kit_is)
    (case it1_Thing => kit_is)
    (case it2_Thing => kit_is)
    (case if0_Thing => kit_is)
    (case if1_Thing => kit_is)
    (case if2_Thing => kit_is)
    (case if3_Thing => kit_is)
    (case aC_Held => k_is)
    (case pg_Held => k_is)
    (case hd_Held => k_is)
    (case po_Held => k_is)
    (case sa_Held => k_is)
    (case mk_Held => k_is)
    (case kc_Held => k_is)
    (case nf_Held_has => k_is)
    (case iA_Held => k_is)
    (case iB_Held => k_is)
    (case iC_Held => k_is)
    (case iD_Held => k_is)
    (case it0_Held => kit_is)
    (case it1_Held => kit_is)
    (case it2_Held => kit_is)
    (case if0_Held => kit_is)
    (case if1_Held => kit_is)
    (case if2_Held => kit_is)
    (case if3_Held => kit_is)
    (case aC_Hall => k_is)
    (case pg_Hall => k_is)
    (case hd_Hall => k_is)
    (case po_Hall => k_is)
    (case sa_Hall => k_is)
    (case mk_Hall => k_is)
    (case kc_Hall => k_is)
    (case nf_Hall_ender => k_is)
    (case nf_Hall_many => k_is)
    (case nf_Hall_there => k_is)
    (case nf_Hall_left => k_is)
    (case nf_Hall_row => k_is)
    (case nf_Hall_lasts => k_is)
    (case aC_Ends => k_is)
    (case pg_Ends => k_is)
    (case hd_Ends => k_is)
    (case po_Ends => k_is)
    (case sa_Ends => k_is)
    (case mk_Ends => k_is)
    (case kc_Ends => k_is)
    (case nf_Ends_hall => k_is)
    (case nf_Ends_plans => k_is)
    (case nf_Ends_numbers => k_is)
    (case nf_Ends_holds => k_is)
    (case a1 => k_is)
    (case i1 => k_is)
    (case l1 => k_is)
    (case c1 => k_is)
    (case k1 => k_is)
    (case a2 => k_is)
    (case i2 => k_is)
    (case l2 => k_is)
    (case c2 => k_is)
    (case k2 => k_is)
    (case a3 => k_is)
    (case i3 => k_is)
    (case l3 => k_is)
    (case c3 => k_is)
    (case k3 => k_is)
    (case a4 => k_is)
    (case i4 => k_is)
    (case l4 => k_is)
    (case c4 => k_is)
    (case k4 => k_is)
    (case a5 => k_is)
    (case i5 => k_is)
    (case l5 => k_is)
    (case c5 => k_is)
    (case k5 => k_is)
    (case a6 => k_is)
    (case i6 => k_is)
    (case l6 => k_is)
    (case c6 => k_is)
    (case k6 => k_is)
    (case a7 => k_is)
    (case i7 => k_is)
    (case l7 => k_is)
    (case c7 => k_is)
    (case k7 => k_is)
    (case a8 => k_is)
    (case i8 => k_is)
    (case l8 => k_is)
    (case c8 => k_is)
    (case k8 => k_is)
    (case a9 => k_is)
    (case i9 => k_is)
    (case l9 => k_is)
    (case c9 => k_is)
    (case k9 => k_is)
    (case a10 => k_is)
    (case i10 => k_is)
    (case l10 => k_is)
    (case c10 => k_is)
    (case k10 => k_is)
    (case a11 => k_is)
    (case i11 => k_is)
    (case l11 => k_is)
    (case c11 => k_is)
    (case k11 => k_is)
    (case a12 => k_is)
    (case i12 => k_is)
    (case l12 => k_is)
    (case c12 => k_is)
    (case k12 => k_is)
    (case a13 => k_is)
    (case i13 => k_is)
    (case l13 => k_is)
    (case c13 => k_is)
    (case k13 => k_is)
    (case a14 => k_is)
    (case i14 => k_is)
    (case l14 => k_is)
    (case c14 => k_is)
    (case k14 => k_is)
    (case a15 => k_is)
    (case i15 => k_is)
    (case l15 => k_is)
    (case c15 => k_is)
    (case k15 => k_is)
    (case a16 => k_is)
    (case i16 => k_is)
    (case l16 => k_is)
    (case c16 => k_is)
    (case k16 => k_is)
    (case a17 => k_is)
    (case i17 => k_is)
    (case l17 => k_is)
    (case c17 => k_is)
    (case k17 => k_is)
    (case a18 => k_is)
    (case i18 => k_is)
    (case l18 => k_is)
    (case c18 => k_is)
    (case k18 => k_is)
    (case a19 => k_is)
    (case i19 => k_is)
    (case l19 => k_is)
    (case c19 => k_is)
    (case k19 => k_is)
    (case a20 => k_is)
    (case i20 => k_is)
    (case l20 => k_is)
    (case c20 => k_is)
    (case k20 => k_is)
    (case a21 => k_is)
    (case i21 => k_is)
    (case l21 => k_is)
    (case c21 => k_is)
    (case k21 => k_is)
    (case a22 => k_is)
    (case i22 => k_is)
    (case l22 => k_is)
    (case c22 => k_is)
    (case k22 => k_is)
    (case a23 => k_is)
    (case i23 => k_is)
    (case l23 => k_is)
    (case c23 => k_is)
    (case k23 => k_is)
    (case a24 => k_is)
    (case i24 => k_is)
    (case l24 => k_is)
    (case c24 => k_is)
    (case k24 => k_is)
    (case a25 => k_is)
    (case i25 => k_is)
    (case l25 => k_is)
    (case c25 => k_is)
    (case k25 => k_is)
    (case a26 => k_is)
    (case l26 => k_is)
    (case c26 => k_is)
    (case k26 => k_is)
    (case a27 => k_is)
    (case l27 => k_is)
    (case c27 => k_is)
    (case k27 => k_is)
    (case a28 => k_is)
    (case l28 => k_is)
    (case c28 => k_is)
    (case k28 => k_is)
    (case a29 => k_is)
    (case l29 => k_is)
    (case c29 => k_is)
    (case k29 => k_is)
    (case a30 => k_is)
    (case l30 => k_is)
    (case c30 => k_is)
    (case k30 => k_is)
    (case a31 => k_is)
    (case l31 => k_is)
    (case c31 => k_is)
    (case k31 => k_is)
    (case a32 => k_is)
    (case l32 => k_is)
    (case c32 => k_is)
    (case k32 => k_is)
    (case a33 => k_is)
    (case l33 => k_is)
    (case c33 => k_is)
    (case k33 => k_is)
    (case a34 => k_is)
    (case l34 => k_is)
    (case c34 => k_is)
    (case k34 => k_is)
    (case a35 => k_is)
    (case l35 => k_is)
    (case c35 => k_is)
    (case k35 => k_is)
    (case z1 => k_is)
    (case z2 => k_is)
    (case z3 => k_is)
    (case z4 => k_is)
    (case z5 => k_is)
    (case z6 => k_is)
    (case z7 => k_is)
    (case z8 => k_is)
    (case z9 => k_is)
    (case z10 => k_is)
    (case z11 => k_is)
    (case z12 => k_is)
    (case z13 => k_is)
    (case z14 => k_is)
    (case z15 => k_is)
    (case z16 => k_is)
    (case q1 => k_is)
    (case q2 => k_is)
    (case q3 => k_is)
    (case q4 => k_is)
    (case q5 => k_is)
    (case q6 => k_is)
    (case q7 => k_is)

