import PyProof.Rows.All
import Wide.All
import OpenK.AllK
import Wide.FinOn
import HandS.ForMost
import HandS.Strs
import HandS.Evl
import HandS.Deep
import HandS.More
import HandS.Rev
import HandS.IsInst
import HandS.StrMore
import HandS.SortInts
import HandS.RaiseMore
import HandS.SetFor
import HandS.ExcInit
import HandS.TryOnly
import HandS.WordsExc
import KE.KExcIs
import KE.KDictPairs
import HandS.DictComp
import HandS.Conv
import HandS.DeepEq
import PyProof.NeKinds
import PySem.Challenge.RW_snakehall_k30_swept_in_order
set_option linter.all false
namespace EM
section
variable {α : Type} [DecidableEq α]

/-- t stands in no list behind its first place -/
def free (ls : List (List α)) (t : α) : Bool := !(ls.any fun o => decide (t ∈ o.tail))
def heads (ls : List (List α)) : List α := ls.filterMap List.head?
def nextT (ls : List (List α)) : Option α := (heads ls).find? (free ls)
def dropH (t : α) (l : List α) : List α := if l.head? = some t then l.tail else l
def live (ls : List (List α)) : List (List α) := ls.filter fun l => !l.isEmpty
def tot (ls : List (List α)) : Nat := (ls.map List.length).sum
def mrg : Nat → List (List α) → Option (List α)
  | 0, _ => some []
  | n + 1, ls => if live ls = [] then some [] else match nextT ls with
    | none => none
    | some t => (mrg n (ls.map (dropH t))).map (t :: ·)
def merge (ls : List (List α)) : Option (List α) := mrg (tot ls) ls

/-! ### lists that are empty count for nothing -/
/-! ### what a merge has -/
/-! ### orders -/
def orderBy (t : α) (es : List α) (f : α → Option (List α)) : Option (List α) :=
  if es.Nodup then (es.mapM f).bind fun ls => (merge (ls ++ [es])).map (t :: ·) else none

def ord (E : α → List α) : Nat → α → Option (List α)
  | 0, _ => none
  | n + 1, t => orderBy t (E t) (ord E n)
/-- the order of a title, by a rank that falls to elders -/
def O (E : α → List α) (r : α → Nat) (t : α) : Option (List α) := ord E (r t + 1) t
/-! ### the stack of order_of -/
def lack (E : α → List α) (ks : List α) (t : α) : List α := (E t).filter fun e => !decide (e ∈ ks)
def addK (ks : List α) (t : α) : List α := if t ∈ ks then ks else ks ++ [t]
/-- m steps from here on the stack (its top at the end) is empty; B: its height's bound; ks: what is known; P: what holds then -/
inductive Runs (E : α → List α) (B : Nat) (P : List α → Prop) : Nat → List α → List α → Prop
  | done {ks} (h : P ks) : Runs E B P 0 [] ks
  | push {m w t ks} (hb : (w ++ [t]).length ≤ B) (hl : lack E ks t ≠ []) (h : Runs E B P m (w ++ [t] ++ lack E ks t) ks) : Runs E B P (m + 1) (w ++ [t]) ks
  | pop {m w t ks} (hb : (w ++ [t]).length ≤ B) (hl : lack E ks t = []) (h : Runs E B P m w (addK ks t)) : Runs E B P (m + 1) (w ++ [t]) ks
end
end EM

set_option Elab.async false
set_option linter.all false
set_option maxRecDepth 100000
/-! len(set(xs)), xs a list of texts, any of them alike -/
namespace ST
open PySem PySem.Spec PyProof.Rows
section
variable {κ : Type} [DecidableEq κ]
/-- how many unlike ones are among the first i -/
def cnt (ks : List κ) : Nat → Nat
  | 0 => 0
  | i + 1 => match ks[i]? with
    | none => cnt ks i
    | some k => if k ∈ ks.take i then cnt ks i else cnt ks i + 1
end
section
variable {prog : Program} {w : World} {A : Around} {R : Result → Shared → Prop} {I S : Addr} {fp wr : List Addr} {G : Array GenState → Array GenState → Prop} {n : Nat} {P : Nat → Value → Prop} {St : Nat → Shared → Prop}
  {κ : Type} [DecidableEq κ] {knd : PySem.KeyKind prog w κ}
end
section
variable {prog : Program} {w : World} {A : Around} {E : Value → Shared → Prop} {s : Shared}
end
end ST
namespace L2
open PySem PySem.Spec PyProof.Rows
end L2

set_option Elab.async false
set_option linter.all false
set_option maxRecDepth 100000
namespace EX
open PySem L2 Evl

/-! ### a def with its promise, ready to be called -/
structure Def (P : Program) (w : World) (K : PySem.W.Frag) (mg : Str → Option Value) (base : Heap) (k : Nat) (x : Str) (ps : List Str) (sp : Sp) : Prop where
  ex : ∃ (f : Addr) (fd : FuncData), FnOk P w K mg base CX0 k f fd ps sp ∧ mg x = some (.ref f) ∧ PySem.W.keepIn K (.ref f) = true ∧ Binds K fd ps []
theorem pe_def {X : Cx} {k : Nat} {x : Str} {ps : List Str} {sp : Sp} {p pos : Pos} {e : Expr} {es : List Expr} {t : TA} (h : Def X.prog X.w X.K X.mg X.base k x ps sp) (hr : Room k X.A) (hg : Gl X x) (ha : PA X (e :: es) t)
    (hdb : (x == ("__debug__" : Str)) = false := by decide) (he : starEach (e :: es) X.env = (false, eval e X.env) :: starEach es X.env := by rfl) (hpl : (backTo pos (starEach es X.env)).any (·.1) = false := by rfl) :
    PE X (.Call (.Name x p) (e :: es) [] pos) (tCall sp [] E0 t) := by
  obtain ⟨f, fd, F, m, kp, b⟩ := h.ex
  exact pe_call F hr hg m kp b .nil pass0 ha hdb he hpl
/-! ### rules with the written part named -/
section
variable {X : Cx} {K : PySem.W.Frag}
theorem slL (h : X.K = K := by rfl) : SlR X (rSlL K) := h ▸ sl_list
theorem opIn (h : X.K = K := by rfl) : OpR X (compareOp .In) (rIn K false) := h ▸ op_in_seq
theorem opNin (h : X.K = K := by rfl) : OpR X (compareOp .NotIn) (rIn K true) := h ▸ op_notIn_seq
theorem crAll (hc : X.calm = true := by rfl) (h : X.K = K := by rfl) : CallR X (.builtin "all") (rAll K) := h ▸ cr_all hc
theorem clList (h : X.K = K := by rfl) : CallR X (.type "list") (rListS K) := h ▸ call_list_of
theorem piL {tg l : Expr} {tl : TE} (hl : PE X l tl) (h : X.K = K := by rfl) : PI X tg l (iList K tl) := h ▸ pi_list hl
theorem piT {tg l : Expr} {tl : TE} (hl : PE X l tl) (h : X.K = K := by rfl) : PI X tg l (iTup K tl) := h ▸ pi_tup hl
theorem peBm {o e : Expr} {es : List Expr} {to : TE} {t : TA} {name : Str} {apos cpos : Pos} {T id : String} {r : V → List V → Hp → VK → Prop} (pa : PlainAttrs T) (slot : Slot T name id) (hty : typeOf (.builtin id) = pure (.type "method_descriptor")) (hm : MtR X id r) (ho : PE X o to) (ha : PA X (e :: es) t)
    (hbase : attributeBase o name X.env (eval o X.env) = eval o X.env := by rfl)
    (hfew : ((backTo cpos (starEach (e :: es) X.env)).all (fun x => !x.1) && (backToKw cpos (keywordEach [] X.env)).all (fun x => x.1.isSome)
      && decide ((e :: es).length + ([] : List Keyword).length + (if ([] : List Keyword).isEmpty then 0 else 1) < 30)) = true := by rfl)
    (hline : (apos.endLine == cpos.line) = true := by rfl) (hs : starEach (e :: es) X.env = (false, eval e X.env) :: starEach es X.env := by rfl) (hplain : (backTo cpos (starEach es X.env)).any (·.1) = false := by rfl) (h : X.K = K := by rfl) :
    PE X (.Call (.Attribute o name apos) (e :: es) [] cpos) (tBM K T r to t) := h ▸ pe_bm pa slot hty hm ho ha hbase hfew hline hs hplain
end
section
variable {X : Cx} {K : PySem.W.Frag}
end
/-! ### texts among values -/
/-! ### readings that evaluate -/
section
variable {K : PySem.W.Frag} {σ : L2.St} {H H' : Hp} {ta tb te : TE}
end
section
variable {K : PySem.W.Frag} {σ : L2.St} {H H' : Hp} {ta tb te : TE} {D : Ends} {x : V}
end
/-- lists of texts at the addresses that a list holds -/
def Rows (K : PySem.W.Frag) (H : Hp) (ps : List V) (ls : List (List Str)) : Prop :=
  ps.length = ls.length ∧ ∀ (i : Nat) (l : List Str), ls[i]? = some l → ∃ p, ps[i]? = some (.ref p) ∧ SqL K H p (l.map V.str)
theorem Rows.mono {K : PySem.W.Frag} {H H' : Hp} {ps : List V} {ls : List (List Str)} (r : Rows K H ps ls) (e : Ex H H') : Rows K H' ps ls :=
  ⟨r.1, fun i l h => let ⟨p, h1, h2⟩ := r.2 i l h; ⟨p, h1, ex_l e h2⟩⟩
theorem Rows.at {K : PySem.W.Frag} {H : Hp} {ps : List V} {ls : List (List Str)} (r : Rows K H ps ls) {i : Nat} {x : V} (h : ps[i]? = some x) : ∃ p l, x = .ref p ∧ ls[i]? = some l ∧ SqL K H p (l.map V.str) := by
  have hi : i < ls.length := by rw [← r.1]; exact (List.getElem?_eq_some_iff.mp h).1
  obtain ⟨p, h1, h2⟩ := r.2 i ls[i] (List.getElem?_eq_getElem hi)
  rw [h] at h1
  exact ⟨p, ls[i], Option.some.inj h1, List.getElem?_eq_getElem hi, h2⟩
/-! ### more of comprehensions -/
/-- lists at addresses -/
def LAt (H : Hp) (qs : List Addr) (ls : List (List V)) : Prop := qs.length = ls.length ∧ ∀ (i : Nat) (l : List V), ls[i]? = some l → ∃ q, qs[i]? = some q ∧ H q = some (.lst l)
theorem LAt.mono {H H' : Hp} {qs : List Addr} {ls : List (List V)} (r : LAt H qs ls) (e : ∀ q ∈ qs, ∀ o, H q = some o → H' q = some o) : LAt H' qs ls :=
  ⟨r.1, fun i l h => let ⟨q, h1, h2⟩ := r.2 i l h; ⟨q, h1, e q (List.mem_of_getElem? h1) _ h2⟩⟩
theorem LAt.all {H : Hp} {qs : List Addr} {ls : List (List V)} (r : LAt H qs ls) {q : Addr} (h : q ∈ qs) : ∃ l, H q = some (.lst l) := by
  obtain ⟨i, hi, e⟩ := List.getElem_of_mem h
  have hl : i < ls.length := by rw [← r.1]; exact hi
  obtain ⟨q', h1, h2⟩ := r.2 i ls[i] (List.getElem?_eq_getElem hl)
  rw [List.getElem?_eq_getElem hi, e] at h1
  cases h1
  exact ⟨_, h2⟩
theorem LAt.snoc {H : Hp} {qs : List Addr} {ls : List (List V)} {p : Addr} {l : List V} (r : LAt H qs ls) (h : H p = some (.lst l)) : LAt H (qs ++ [p]) (ls ++ [l]) := by
  refine ⟨by simp [r.1], fun i x hx => ?_⟩
  by_cases hi : i < ls.length
  · rw [List.getElem?_append_left hi] at hx
    obtain ⟨q, h1, h2⟩ := r.2 i x hx
    exact ⟨q, by rw [List.getElem?_append_left (by rw [r.1]; exact hi)]; exact h1, h2⟩
  · rw [List.getElem?_append_right (by omega)] at hx
    have h0 : i - ls.length = 0 := by
      cases hz : i - ls.length with
      | zero => rfl
      | succ n => rw [hz] at hx; simp at hx
    rw [h0] at hx
    simp at hx
    subst hx
    refine ⟨p, ?_, h⟩
    rw [List.getElem?_append_right (by rw [r.1]; omega), r.1, h0]
    rfl
/-- new lists, all apart, in a new list -/
structure NewL (H H' : Hp) (D : Addr) (qs : List Addr) (ls : List (List V)) : Prop where
  nD : H D = none
  ex : Ex H H'
  at_ : H' D = some (.lst (qs.map V.ref))
  out : D ∉ qs
  nd : qs.Nodup
  new : ∀ q ∈ qs, H q = none
  rows : LAt H' qs ls
section
variable {K : PySem.W.Frag} {σ : L2.St} {H : Hp} {te tl : TE} {t : TT}
end
/-! ### data: lists of texts, or none -/
def dS (l : List Str) : PyData := .list (l.map .str)
def dO : Option (List Str) → PyData
  | none => .none
  | some l => dS l
section
variable {K : PySem.W.Frag} {H : Hp}
/-- a value that is none or a list of texts -/
def ValO (K : PySem.W.Frag) (H : Hp) (v : V) (r : Option (List Str)) : Prop := match r with
  | none => v = .non
  | some l => ∃ p, v = .ref p ∧ SqL K H p (l.map V.str)
theorem ValO.mono {H' : Hp} {v : V} {r : Option (List Str)} (h : ValO K H v r) (e : Ex H H') : ValO K H' v r := by
  cases r with
  | none => exact h
  | some l =>
    obtain ⟨p, a, b⟩ := h
    exact ⟨p, a, ex_l e b⟩
end
/-! ### dicts, lists: what evaluates -/
section
variable {K : PySem.W.Frag} {σ : L2.St} {H : Hp} {ta tb te td ty : TE} {D : Ends} {tz : TS} {x v : V}
end
/-! ### some value of which P holds -/
section
variable {σ : L2.St} {H : Hp} {ta tb te : TE} {P P1 P2 : V → Prop} {v : V} {r : R2} {D : Ends} {tz : TS}
end
/-! ### one object left out -/
/-- the heap without what stands at a -/
def hide (a : Addr) (H : Hp) : Hp := fun b => if b = a then none else H b
theorem hide_ne {a b : Addr} {H : Hp} (h : b ≠ a) : hide a H b = H b := by unfold hide; rw [if_neg h]
theorem hide_get {a b : Addr} {H : Hp} {o : HO} (h : H b = some o) (n : b ≠ a) : hide a H b = some o := by rw [hide_ne n]; exact h
/-- back to a heap that does not know a -/
theorem ex_hide {a : Addr} {B H : Hp} (e : Ex B H) (n : B a = none) : Ex B (hide a H) := fun b o h => by
  rw [hide_ne (ne_of_none h n)]
  exact e b o h
/-! ### rows read: a value and the texts of the list there -/
abbrev VR := V × List Str
def RowsP (K : PySem.W.Frag) (H : Hp) (rs : List VR) : Prop := ∀ r ∈ rs, ∃ p, r.1 = .ref p ∧ SqL K H p (r.2.map V.str)
theorem RowsP.mono {K : PySem.W.Frag} {H H' : Hp} {rs : List VR} (h : RowsP K H rs) (e : Ex H H') : RowsP K H' rs := fun r hr => let ⟨p, a, b⟩ := h r hr; ⟨p, a, ex_l e b⟩
theorem eqv_nil (ds : List PyData) : PyData.eqv (.list ds) (.list []) = ds.isEmpty := by
  cases ds <;> simp [PyData.eqv, PyData.eqvAll]
section
variable {K : PySem.W.Frag} {σ : L2.St} {H : Hp} {ta tb te : TE} {x y : V}
end
section
variable {σ : L2.St} {H : Hp} {ta tb te : TE} {r : R2} {D : Ends} {tz : TS} {Q : VK}
end
end EX

set_option Elab.async false
set_option linter.all false
set_option maxRecDepth 100000
/-! draws: a tap (a list of four ints at tp) that each draw changes; a draw is any number in its range -/
namespace EX
open PySem L2 Evl
def Tap (H : Hp) (tp : Addr) : Prop := ∃ a b c d : Int, H tp = some (.lst [.int a, .int b, .int c, .int d])
theorem Tap.mono {H H' : Hp} {tp : Addr} (t : Tap H tp) (e : Ex H H') : Tap H' tp := let ⟨a, b, c, d, h⟩ := t; ⟨a, b, c, d, e _ _ h⟩
/-- te evaluates, drawing, to some value of which P holds; what B knows stays -/
def Dr (tp : Addr) (te : TE) (σ : L2.St) (B : Hp) (P : V → Prop) : Prop := ∀ H1, Ex B H1 → Tap H1 tp → ∀ Q : VK, (∀ v H2, Ex B H2 → Tap H2 tp → P v → Q v H2) → te σ H1 Q
section
variable {tp : Addr} {σ : L2.St} {B H : Hp} {ta tb te : TE} {t u : TT} {P P1 P2 : V → Prop} {v : V} {r : R2} {D : Ends} {tu tw tz : TS}
theorem Dr.imp (h : Dr tp te σ B P) (k : ∀ v, P v → P1 v) : Dr tp te σ B P1 := fun H1 e t Q q => h H1 e t Q fun v H2 e2 t2 p => q v H2 e2 t2 (k v p)
/-! ### statements -/
end
end EX

set_option Elab.async false
set_option linter.all false
set_option maxRecDepth 100000
namespace EX
open PySem L2 Evl
section
variable {tp : Addr} {σ : L2.St} {B H : Hp} {ta tb te : TE} {t u : TT} {P P1 P2 : V → Prop} {v : V} {r : R2} {D : Ends} {tu tw tz : TS} {K : PySem.W.Frag}
theorem ixAt {xs : List V} {p : Addr} {i : Int} {j : Nat} {x : V} (h : H p = some (.lst xs)) (hi : i = (j : Int)) (hx : xs[j]? = some x) : RV (rIxL K) (.ref p) (.int i) H x := rv_ixL (sq_of h) (at_of hi hx)
end
end EX

set_option Elab.async false
set_option linter.all false
set_option maxRecDepth 100000
namespace EX
open PySem L2 Evl
section
variable {tp : Addr} {σ : L2.St} {B H : Hp} {ta tb te : TE} {t u : TT} {P P1 P2 : V → Prop} {v : V} {r : R2} {D : Ends} {tu tw tz : TS} {K : PySem.W.Frag} {sp : Sp} {vs : List V} {E : XK} {tA : TA}
end
end EX

set_option Elab.async false
set_option linter.all false
set_option maxRecDepth 100000
set_option maxHeartbeats 1000000
/-! list(reversed(xs)), xs a list -/
namespace LR
open PySem PySem.Spec PyProof.Rows
section
variable {prog : Program} {w : World} {A : Around} {E : Value → Shared → Prop} {s : Shared}
end
end LR
namespace L2
open PySem PySem.Spec PyProof.Rows
end L2

set_option Elab.async false
set_option linter.all false
set_option maxRecDepth 100000
/-! what the laws on elders share beyond EX and DR -/
namespace EX
open PySem L2 Evl
section
variable {σ : L2.St} {H : Hp} {ta tb te : TE}
end
end EX

set_option Elab.async false
set_option linter.all false
set_option maxRecDepth 100000
/-! the data layer: values as data (what never changes again), a small store of what changes; readings over these alone -/
namespace DL
open PySem L2 Evl EX
inductive D where
  | non | bl (b : Bool) | int (i : Int) | str (x : Str) | list (ds : List D) | tup (ds : List D) | ref (a : Addr) | ty (n : String) | scr (ds : List D)
mutual
/-- a value that reads as data, by what stands fast -/
inductive RdD (K : PySem.W.Frag) (B : Hp) : V → D → Prop
  | non : RdD K B .non .non
  | bl (b : Bool) : RdD K B (.bl b) (.bl b)
  | int (i : Int) : RdD K B (.int i) (.int i)
  | str (x : Str) : RdD K B (.str x) (.str x)
  | ty (n : String) : RdD K B (.ty n) (.ty n)
  | ref (a : Addr) : RdD K B (.ref a) (.ref a)
  | lst {a : Addr} {xs : List V} {ds : List D} : B a = some (.lst xs) → RdL K B xs ds → RdD K B (.ref a) (.list ds)
  | tup {a : Addr} {xs : List V} {ds : List D} : SqT K B a xs → RdL K B xs ds → RdD K B (.ref a) (.tup ds)
  | scr {a : Addr} {xs : List V} {ds : List D} : SqL K B a xs → RdL K B xs ds → RdD K B (.ref a) (.scr ds)
inductive RdL (K : PySem.W.Frag) (B : Hp) : List V → List D → Prop
  | nil : RdL K B [] []
  | cons {v : V} {vs : List V} {d : D} {ds : List D} : RdD K B v d → RdL K B vs ds → RdL K B (v :: vs) (d :: ds)
end
mutual
theorem RdD.mono {K : PySem.W.Frag} {B B' : Hp} (e : Ex B B') : ∀ {v : V} {d : D}, RdD K B v d → RdD K B' v d
  | _, _, .non => .non
  | _, _, .bl b => .bl b
  | _, _, .int i => .int i
  | _, _, .str x => .str x
  | _, _, .ty n => .ty n
  | _, _, .ref a => .ref a
  | _, _, .lst h r => .lst (e _ _ h) (RdL.mono e r)
  | _, _, .tup h r => .tup (ex_t e h) (RdL.mono e r)
  | _, _, .scr h r => .scr (ex_l e h) (RdL.mono e r)
theorem RdL.mono {K : PySem.W.Frag} {B B' : Hp} (e : Ex B B') : ∀ {vs : List V} {ds : List D}, RdL K B vs ds → RdL K B' vs ds
  | _, _, .nil => .nil
  | _, _, .cons h r => .cons (RdD.mono e h) (RdL.mono e r)
end
section
variable {K : PySem.W.Frag} {B : Hp}
theorem RdL.length : ∀ {vs : List V} {ds : List D}, RdL K B vs ds → vs.length = ds.length
  | _, _, .nil => rfl
  | _, _, .cons _ r => by rw [List.length_cons, List.length_cons, r.length]
theorem RdL.get : ∀ {vs : List V} {ds : List D} {i : Nat} {d : D}, RdL K B vs ds → ds[i]? = some d → ∃ v, vs[i]? = some v ∧ RdD K B v d
  | _, _, _, _, .nil, h => by simp at h
  | _, _, 0, _, .cons h _, e => by simp at e; subst e; exact ⟨_, rfl, h⟩
  | _, _, i + 1, _, .cons _ r, e => by
    obtain ⟨v, a, b⟩ := r.get (i := i) (by simpa using e)
    exact ⟨v, by simpa using a, b⟩
theorem RdL.getV : ∀ {vs : List V} {ds : List D} {i : Nat} {v : V}, RdL K B vs ds → vs[i]? = some v → ∃ d, ds[i]? = some d ∧ RdD K B v d
  | _, _, _, _, .nil, h => by simp at h
  | _, _, 0, _, .cons h _, e => by simp at e; subst e; exact ⟨_, rfl, h⟩
  | _, _, i + 1, _, .cons _ r, e => by
    obtain ⟨v, a, b⟩ := r.getV (i := i) (by simpa using e)
    exact ⟨v, by simpa using a, b⟩
theorem RdL.append : ∀ {vs ws : List V} {ds es : List D}, RdL K B vs ds → RdL K B ws es → RdL K B (vs ++ ws) (ds ++ es)
  | _, _, _, _, .nil, s => s
  | _, _, _, _, .cons h r, s => .cons h (r.append s)
theorem RdL.take : ∀ {vs : List V} {ds : List D} (n : Nat), RdL K B vs ds → RdL K B (vs.take n) (ds.take n)
  | _, _, 0, _ => .nil
  | _, _, _ + 1, .nil => .nil
  | _, _, n + 1, .cons h r => .cons h (r.take n)
theorem RdL.drop : ∀ {vs : List V} {ds : List D} (n : Nat), RdL K B vs ds → RdL K B (vs.drop n) (ds.drop n)
  | _, _, 0, r => r
  | _, _, _ + 1, .nil => .nil
  | _, _, n + 1, .cons _ r => r.drop n
theorem RdL.set {v : V} {d : D} (h : RdD K B v d) : ∀ {vs : List V} {ds : List D} (n : Nat), RdL K B vs ds → RdL K B (vs.set n v) (ds.set n d)
  | _, _, _, .nil => .nil
  | _, _, 0, .cons _ r => .cons h r
  | _, _, n + 1, .cons q r => .cons q (r.set h n)
theorem RdL.one {v : V} {d : D} (h : RdD K B v d) : RdL K B [v] [d] := .cons h .nil
theorem rd_int {v : V} {i : Int} (h : RdD K B v (.int i)) : v = .int i := by cases h; rfl
theorem rd_bl {v : V} {b : Bool} (h : RdD K B v (.bl b)) : v = .bl b := by cases h; rfl
theorem rd_str {v : V} {x : Str} (h : RdD K B v (.str x)) : v = .str x := by cases h; rfl
theorem rd_non {v : V} (h : RdD K B v .non) : v = .non := by cases h; rfl
theorem rd_ref {v : V} {a : Addr} (h : RdD K B v (.ref a)) : v = .ref a := by cases h; rfl
theorem rd_list {v : V} {ds : List D} (h : RdD K B v (.list ds)) : ∃ a xs, v = .ref a ∧ B a = some (.lst xs) ∧ RdL K B xs ds := by
  cases h with
  | lst h r => exact ⟨_, _, rfl, h, r⟩
theorem rd_tup {v : V} {ds : List D} (h : RdD K B v (.tup ds)) : ∃ a xs, v = .ref a ∧ SqT K B a xs ∧ RdL K B xs ds := by
  cases h with
  | tup h r => exact ⟨_, _, rfl, h, r⟩
theorem rd_scr {v : V} {ds : List D} (h : RdD K B v (.scr ds)) : ∃ a xs, v = .ref a ∧ SqL K B a xs ∧ RdL K B xs ds := by
  cases h with
  | scr h r => exact ⟨_, _, rfl, h, r⟩
theorem rdl_ints : ∀ ns : List Int, RdL K B (ns.map V.int) (ns.map D.int)
  | [] => .nil
  | n :: ns => .cons (.int n) (rdl_ints ns)
end
/-! ### the store -/
inductive O where
  | lst (ds : List D) | dct (kvs : List (Key × D)) | ins (C dx : Addr) (fs : List (Str × D)) | tap | lck (od : Obj) (xs : List (Key × V)) (kvs : List (Key × D)) | xd (fs : List (Str × D))
abbrev Sto := Addr → Option O
/-- a dict that may be read, locked or not -/
def DctAt (S : Sto) (a : Addr) (kvs : List (Key × D)) : Prop := S a = some (.dct kvs) ∨ ∃ od xs, S a = some (.lck od xs kvs)
def put (S : Sto) (a : Addr) (o : O) : Sto := fun b => if b = a then some o else S b
def del (S : Sto) (a : Addr) : Sto := fun b => if b = a then none else S b
theorem put_same {S : Sto} {a : Addr} {o : O} : put S a o a = some o := by unfold put; rw [if_pos rfl]
theorem put_ne {S : Sto} {a b : Addr} {o : O} (h : b ≠ a) : put S a o b = S b := by unfold put; rw [if_neg h]
theorem del_same {S : Sto} {a : Addr} : del S a a = none := by unfold del; rw [if_pos rfl]
theorem del_ne {S : Sto} {a b : Addr} (h : b ≠ a) : del S a b = S b := by unfold del; rw [if_neg h]
theorem put_put {S : Sto} {a : Addr} {o u : O} : put (put S a o) a u = put S a u := by funext b; unfold put; split <;> rfl
theorem del_put {S : Sto} {a : Addr} {o : O} (h : S a = none) : del (put S a o) a = S := by
  funext b; unfold del put
  split
  · rename_i e; rw [e, h]
  · rfl
theorem put_self {S : Sto} {a : Addr} {o : O} (h : S a = some o) : put S a o = S := by
  funext b; unfold put
  split
  · rename_i e; rw [e, h]
  · rfl
theorem put_comm {S : Sto} {a b : Addr} {o u : O} (h : a ≠ b) : put (put S a o) b u = put (put S b u) a o := by
  funext c; unfold put
  by_cases h1 : c = a
  · by_cases h2 : c = b
    · exact absurd (h1.symm.trans h2) h
    · rw [if_neg h2, if_pos h1, if_pos h1]
  · by_cases h2 : c = b
    · rw [if_pos h2, if_neg h1, if_pos h2]
    · rw [if_neg h2, if_neg h1, if_neg h1, if_neg h2]
theorem sto_ne {S : Sto} {a b : Addr} {o : O} (h : S a = some o) (n : S b = none) : a ≠ b := fun e => by rw [e, n] at h; cases h
def RdKV {κ : Type} (K : PySem.W.Frag) (B : Hp) : List (κ × V) → List (κ × D) → Prop := Paired fun p q => p.1 = q.1 ∧ RdD K B p.2 q.2
theorem RdKV.mono {κ : Type} {K : PySem.W.Frag} {B B' : Hp} (e : Ex B B') {l : List (κ × V)} {m : List (κ × D)} (h : RdKV K B l m) : RdKV K B' l m := Paired.mapP h fun _ _ r => ⟨r.1, r.2.mono e⟩
inductive RdO (K : PySem.W.Frag) (B : Hp) : HO → O → Prop
  | lst {xs : List V} {ds : List D} : RdL K B xs ds → RdO K B (.lst xs) (.lst ds)
  | dct {kvs : List (Key × V)} {dvs : List (Key × D)} : RdKV K B kvs dvs → RdO K B (.dK kvs) (.dct dvs)
  | ins {C dx : Addr} {fs : List (Str × V)} {gs : List (Str × D)} : RdKV K B fs gs → RdO K B (.ins C dx fs) (.ins C dx gs)
  | tap (a b c d : Int) : RdO K B (.lst [.int a, .int b, .int c, .int d]) .tap
  | lck {od : Obj} {xs : List (Key × V)} {kvs : List (Key × D)} : RdKV K B xs kvs → RdO K B (.frz od (.dK xs)) (.lck od xs kvs)
  | xd {fs : List (Str × V)} {gs : List (Str × D)} : RdKV K B fs gs → RdO K B (.xd fs) (.xd gs)
theorem RdO.mono {K : PySem.W.Frag} {B B' : Hp} (e : Ex B B') {h : HO} {o : O} (r : RdO K B h o) : RdO K B' h o := by
  cases r with
  | lst r => exact .lst (r.mono e)
  | dct r => exact .dct (r.mono e)
  | ins r => exact .ins (r.mono e)
  | tap a b c d => exact .tap a b c d
  | lck r => exact .lck (r.mono e)
  | xd r => exact .xd (r.mono e)
/-- B stands fast, S is what changes, H is both -/
structure R (K : PySem.W.Frag) (B : Hp) (S : Sto) (H : Hp) : Prop where
  ex : Ex B H
  own : ∀ a o, S a = some o → B a = none ∧ ∃ ho, H a = some ho ∧ RdO K B ho o
section
variable {K : PySem.W.Frag} {B H : Hp} {S : Sto}
theorem R.fresh (r : R K B S H) {p : Addr} (h : H p = none) : B p = none ∧ S p = none := by
  refine ⟨fresh_back r.ex h, ?_⟩
  cases e : S p with
  | none => rfl
  | some o =>
    obtain ⟨_, ho, e2, _⟩ := r.own p o e
    rw [h] at e2
    cases e2
/-- a new thing that stands fast -/
theorem R.new (r : R K B S H) {p : Addr} {o : HO} (h : H p = none) : R K (upd B p o) S (upd H p o) ∧ Ex B (upd B p o) := by
  have hb := (r.fresh h).1
  refine ⟨⟨fun a u e => ?_, fun a u e => ?_⟩, Ex.new hb⟩
  · by_cases z : a = p
    · subst z; rw [upd_same] at e ⊢; exact e
    · rw [upd_ne z] at e ⊢; exact r.ex a u e
  · obtain ⟨n, ho, h1, h2⟩ := r.own a u e
    have z : a ≠ p := fun z => by rw [z, h] at h1; cases h1
    exact ⟨by rw [upd_ne z]; exact n, ho, by rw [upd_ne z]; exact h1, h2.mono (Ex.new hb)⟩
/-- a new thing that may change -/
theorem R.newS (r : R K B S H) {p : Addr} {ho : HO} {o : O} (h : H p = none) (ro : RdO K B ho o) : R K B (put S p o) (upd H p ho) := by
  have hb := (r.fresh h).1
  refine ⟨r.ex.trans (Ex.new h), fun a u e => ?_⟩
  by_cases z : a = p
  · subst z; rw [put_same] at e; cases e; exact ⟨hb, ho, upd_same, ro⟩
  · rw [put_ne z] at e
    obtain ⟨n, ho', h1, h2⟩ := r.own a u e
    exact ⟨n, ho', by rw [upd_ne z]; exact h1, h2⟩
/-- a thing of the store changes -/
theorem R.mut (r : R K B S H) {p : Addr} {ho : HO} {o u : O} (h : S p = some u) (ro : RdO K B ho o) : R K B (put S p o) (upd H p ho) := by
  have hb := (r.own p u h).1
  refine ⟨r.ex.mut hb, fun a v e => ?_⟩
  by_cases z : a = p
  · subst z; rw [put_same] at e; cases e; exact ⟨hb, ho, upd_same, ro⟩
  · rw [put_ne z] at e
    obtain ⟨n, ho', h1, h2⟩ := r.own a v e
    exact ⟨n, ho', by rw [upd_ne z]; exact h1, h2⟩
/-- a list of the store stands fast from now on -/
theorem R.freeze (r : R K B S H) {p : Addr} {ds : List D} (h : S p = some (.lst ds)) : ∃ B', Ex B B' ∧ R K B' (del S p) H ∧ RdD K B' (.ref p) (.list ds) := by
  obtain ⟨hb, ho, h1, h2⟩ := r.own p _ h
  cases h2 with
  | lst rl =>
    rename_i xs
    have e : Ex B (upd B p (.lst xs)) := Ex.new hb
    refine ⟨_, e, ⟨fun a u q => ?_, fun a u q => ?_⟩, .lst upd_same (rl.mono e)⟩
    · by_cases z : a = p
      · subst z; rw [upd_same] at q; cases q; exact h1
      · rw [upd_ne z] at q; exact r.ex a u q
    · by_cases z : a = p
      · subst z; rw [del_same] at q; cases q
      · rw [del_ne z] at q
        obtain ⟨n, ho', h3, h4⟩ := r.own a u q
        exact ⟨by rw [upd_ne z]; exact n, ho', h3, h4.mono e⟩
theorem R.lst (r : R K B S H) {p : Addr} {ds : List D} (h : S p = some (.lst ds)) : ∃ xs, H p = some (.lst xs) ∧ RdL K B xs ds := by
  obtain ⟨_, ho, h1, h2⟩ := r.own p _ h
  cases h2 with
  | lst rl => exact ⟨_, h1, rl⟩
theorem R.dct (r : R K B S H) {p : Addr} {ds : List (Key × D)} (h : S p = some (.dct ds)) : ∃ xs, H p = some (.dK xs) ∧ RdKV K B xs ds := by
  obtain ⟨_, ho, h1, h2⟩ := r.own p _ h
  cases h2 with
  | dct rl => exact ⟨_, h1, rl⟩
theorem R.lck (r : R K B S H) {p : Addr} {od : Obj} {xs : List (Key × V)} {ds : List (Key × D)} (h : S p = some (.lck od xs ds)) : H p = some (.frz od (.dK xs)) ∧ RdKV K B xs ds := by
  obtain ⟨_, ho, h1, h2⟩ := r.own p _ h
  cases h2 with
  | lck rl => exact ⟨h1, rl⟩
theorem R.dctR (r : R K B S H) {p : Addr} {ds : List (Key × D)} (h : DctAt S p ds) : ∃ xs, Rd H p (.dK xs) ∧ RdKV K B xs ds := by
  rcases h with h | ⟨od, xs, h⟩
  · obtain ⟨xs, h1, h2⟩ := r.dct h
    exact ⟨xs, .inl h1, h2⟩
  · obtain ⟨h1, h2⟩ := r.lck h
    exact ⟨xs, .inr ⟨od, h1⟩, h2⟩
theorem R.ins (r : R K B S H) {p C dx : Addr} {ds : List (Str × D)} (h : S p = some (.ins C dx ds)) : ∃ xs, H p = some (.ins C dx xs) ∧ RdKV K B xs ds := by
  obtain ⟨_, ho, h1, h2⟩ := r.own p _ h
  cases h2 with
  | ins rl => exact ⟨_, h1, rl⟩
theorem R.tap (r : R K B S H) {p : Addr} (h : S p = some .tap) : Tap H p := by
  obtain ⟨_, ho, h1, h2⟩ := r.own p _ h
  cases h2 with
  | tap a b c d => exact ⟨a, b, c, d, h1⟩
end
/-! ### slots, wishes, readings -/
abbrev Dst := List (Option D)
abbrev DK := D → Sto → Prop
abbrev DE := Dst → Sto → DK → Prop
abbrev DT := Dst → Sto → (Bool → Sto → Prop) → Prop
abbrev DA := Dst → Sto → (List D → Sto → Prop) → Prop
structure DEnds where
  nx : Dst → Sto → Prop
  rt : DK
  bk : Dst → Sto → Prop := fun _ _ => False
  ct : Dst → Sto → Prop := fun _ _ => False
  xx : Value → Option Addr → Dst → Sto → Prop := fun _ _ _ _ => False
abbrev DS := DEnds → Dst → Sto → Prop
abbrev XDK := Value → Option Addr → Sto → Prop
/-- what is wished of an exception -/
abbrev WXD := Value → Option Addr → L2.St → Hp → Prop
abbrev SpD := List D → Sto → DK → XDK → Prop
structure Sl (K : PySem.W.Frag) (B : Hp) (σ : L2.St) (δ : Dst) : Prop where
  len : σ.length = δ.length
  at_ : ∀ (i : Nat) (d : D), δ[i]? = some (some d) → ∃ v, σ[i]? = some (some v) ∧ RdD K B v d
section
variable {K : PySem.W.Frag} {B B' H : Hp} {S : Sto} {σ : L2.St} {δ : Dst}
theorem Sl.mono (s : Sl K B σ δ) (e : Ex B B') : Sl K B' σ δ := ⟨s.len, fun i d h => let ⟨v, a, b⟩ := s.at_ i d h; ⟨v, a, b.mono e⟩⟩
theorem Sl.set (s : Sl K B σ δ) {v : V} {d : D} (h : RdD K B v d) (i : Nat) : Sl K B (σ.set i (some v)) (δ.set i (some d)) := by
  refine ⟨by simp [s.len], fun j x e => ?_⟩
  by_cases z : i = j
  · subst z
    by_cases hl : i < δ.length
    · rw [List.getElem?_set_self hl] at e
      cases e
      exact ⟨v, List.getElem?_set_self (by rw [s.len]; exact hl), h⟩
    · rw [List.getElem?_eq_none (by simpa using hl)] at e
      cases e
  · rw [List.getElem?_set_ne z] at e ⊢
    exact s.at_ j x e
end
/-- readings over data, as readings of the layer -/
def lE (K : PySem.W.Frag) (d : DE) : TE := fun σ H Q => ∃ B δ S k, Sl K B σ δ ∧ R K B S H ∧ d δ S k ∧ ∀ x S' v B' H', k x S' → Ex B B' → R K B' S' H' → RdD K B' v x → Q v H'
def lT (K : PySem.W.Frag) (d : DT) : TT := fun σ H Q => ∃ B δ S k, Sl K B σ δ ∧ R K B S H ∧ d δ S k ∧ ∀ b S' B' H', k b S' → Ex B B' → R K B' S' H' → Q b H'
def lA (K : PySem.W.Frag) (d : DA) : TA := fun σ H Q => ∃ B δ S k, Sl K B σ δ ∧ R K B S H ∧ d δ S k ∧ ∀ xs S' vs B' H', k xs S' → Ex B B' → R K B' S' H' → RdL K B' vs xs → Q vs H'
structure lD (K : PySem.W.Frag) (W : WXD) (B : Hp) (D : DEnds) (E : Ends) : Prop where
  nx : ∀ δ S σ B' H', D.nx δ S → Ex B B' → Sl K B' σ δ → R K B' S H' → E.nx σ H'
  rt : ∀ x S v B' H', D.rt x S → Ex B B' → R K B' S H' → RdD K B' v x → E.rt v H'
  bk : ∀ δ S σ B' H', D.bk δ S → Ex B B' → Sl K B' σ δ → R K B' S H' → E.bk σ H'
  ct : ∀ δ S σ B' H', D.ct δ S → Ex B B' → Sl K B' σ δ → R K B' S H' → E.ct σ H'
  xx : ∀ c od δ S σ B' H', D.xx c od δ S → Ex B B' → Sl K B' σ δ → R K B' S H' → W c od σ H'
def lS (K : PySem.W.Frag) (W : WXD) (d : DS) : TS := fun E σ H => ∃ B δ S D, Sl K B σ δ ∧ R K B S H ∧ d D δ S ∧ lD K W B D E
theorem lD.mono {K : PySem.W.Frag} {W : WXD} {B B' : Hp} {D : DEnds} {E : Ends} (h : lD K W B D E) (e : Ex B B') : lD K W B' D E :=
  ⟨fun δ S σ B2 H k e2 => h.nx δ S σ B2 H k (e.trans e2), fun x S v B2 H k e2 => h.rt x S v B2 H k (e.trans e2), fun δ S σ B2 H k e2 => h.bk δ S σ B2 H k (e.trans e2), fun δ S σ B2 H k e2 => h.ct δ S σ B2 H k (e.trans e2), fun c od δ S σ B2 H k e2 => h.xx c od δ S σ B2 H k (e.trans e2)⟩
def lSp (K : PySem.W.Frag) (f : SpD) : Sp := fun vs H Q E => ∃ B ds S k kx, RdL K B vs ds ∧ R K B S H ∧ f ds S k kx ∧ (∀ x S' v B' H', k x S' → Ex B B' → R K B' S' H' → RdD K B' v x → Q v H') ∧
  ∀ c od S' B' H', kx c od S' → Ex B B' → R K B' S' H' → E c od H'
/-! ### the judgements, weakened -/
section
variable {X : Cx}
theorem peOf {e : Expr} {t u : TE} (h : PE X e t) (k : ∀ σ H Q, u σ H Q → t σ H Q) : PE X e u := ⟨fun pins s σ H Q I q => h.run pins s σ H Q I (k σ H Q q)⟩
theorem ptOf {e : Expr} {t u : TT} (h : PT X e t) (k : ∀ σ H Q, u σ H Q → t σ H Q) : PT X e u := ⟨fun pins s σ H Q I q => h.run pins s σ H Q I (k σ H Q q)⟩
theorem pwOf {e : Expr} {t u : TT} (h : PW X e t) (k : ∀ σ H Q, u σ H Q → t σ H Q) : PW X e u := ⟨fun wh pins s σ H Q I q => h.run wh pins s σ H Q I (k σ H Q q)⟩
theorem paOf {e : List Expr} {t u : TA} (h : PA X e t) (k : ∀ σ H Q, u σ H Q → t σ H Q) : PA X e u := ⟨fun pos pins s σ H Q I q => h.run pos pins s σ H Q I (k σ H Q q)⟩
theorem psOf {st : Stmt} {t u : TS} (h : PS X st t) (k : ∀ D σ H, u D σ H → t D σ H) : PS X st u := ⟨fun pins s σ H D I q => h.run pins s σ H D I (k D σ H q)⟩
theorem pssOf {st : List Stmt} {t u : TS} (h : PSs X st t) (k : ∀ D σ H, u D σ H → t D σ H) : PSs X st u := ⟨fun pins s σ H D I q => h.run pins s σ H D I (k D σ H q)⟩
theorem pgOf {tg : Expr} {t u : TG} (h : PG X tg t) (k : ∀ v σ H Q, u v σ H Q → t v σ H Q) : PG X tg u := by
  obtain ⟨r⟩ := h
  exact ⟨fun pins s σ H v w Q I rv q => r pins s σ H v w Q I rv (k v σ H Q q)⟩
end
end DL

set_option Elab.async false
set_option linter.all false
set_option maxRecDepth 100000
namespace DL
open PySem L2 Evl EX
/-! ### expressions -/
section
variable {X : Cx} {K : PySem.W.Frag}
def dVar (i : Nat) : DE := fun δ S k => match δ[i]? with
  | some (some d) => k d S
  | _ => False
theorem de_var (i : Nat) {x : Str} {pos : Pos} (hN : X.N[i]? = some x := by rfl) (hv : Vis X.env.scope x := by first | exact Or.inl rfl | exact Or.inr (Or.inl rfl) | exact Or.inr (Or.inr rfl)) (hd : (x == ("__debug__" : Str)) = false := by decide)
    (hcd : (x == ("__classdict__" : Str)) = false := by decide) : PE X (.Name x pos) (lE K (dVar i)) := peOf (pv i hN hv hd hcd) fun σ H Q ⟨B, δ, S, k, s, r, h, q⟩ => by
  unfold dVar at h
  split at h
  · rename_i d e
    obtain ⟨v, hv, rv⟩ := s.at_ i d e
    exact ⟨v, hv, q d S v B H h (Ex.refl B) r rv⟩
  · exact h.elim
/-- a list of the store, read for good -/
def dFrz (i : Nat) : DE := fun δ S k => match δ[i]? with
  | some (some (.ref a)) => ∃ ds, S a = some (.lst ds) ∧ k (.list ds) (del S a)
  | _ => False
theorem de_frz (i : Nat) {x : Str} {pos : Pos} (hN : X.N[i]? = some x := by rfl) (hv : Vis X.env.scope x := by first | exact Or.inl rfl | exact Or.inr (Or.inl rfl) | exact Or.inr (Or.inr rfl)) (hd : (x == ("__debug__" : Str)) = false := by decide)
    (hcd : (x == ("__classdict__" : Str)) = false := by decide) : PE X (.Name x pos) (lE K (dFrz i)) := peOf (pv i hN hv hd hcd) fun σ H Q ⟨B, δ, S, k, s, r, h, q⟩ => by
  unfold dFrz at h
  split at h
  · rename_i a e
    obtain ⟨v, hv, rv⟩ := s.at_ i _ e
    obtain ⟨ds, hs, h⟩ := h
    obtain ⟨B', e', r', rd⟩ := r.freeze hs
    rw [rd_ref rv] at hv
    exact ⟨_, hv, q _ _ _ B' H h e' r' rd⟩
  · exact h.elim
def dC (d : D) : DE := fun _ S k => k d S
theorem de_c {e : Expr} {v : V} {d : D} (h : PE X e (tC v)) (hd : ∀ B, RdD K B v d) : PE X e (lE K (dC d)) := peOf h fun σ H Q ⟨B, δ, S, k, s, r, h, q⟩ => q d S v B H h (Ex.refl B) r (hd B)
theorem de_int {i j pos} : PE X (.Constant (.int i) j pos) (lE K (dC (.int i))) := de_c pe_int fun _ => .int i
theorem de_bl {b j pos} : PE X (.Constant (.bool b) j pos) (lE K (dC (.bl b))) := de_c pe_bl fun _ => .bl b
theorem de_non {j pos} : PE X (.Constant .none j pos) (lE K (dC .non)) := de_c pe_non fun _ => .non
theorem de_str {x j pos} : PE X (.Constant (.str x) j pos) (lE K (dC (.str x))) := de_c pe_str fun _ => .str x
/-- a constant of the module -/
def GlD (K : PySem.W.Frag) (mg : Str → Option Value) (x : Str) (d : D) : Prop := ∃ v u, mg x = some u ∧ RelV v u ∧ ∀ B, RdD K B v d
theorem de_gl {x : Str} {d : D} {pos : Pos} (hg : Gl X x) (h : GlD K X.mg x d) (hd : (x == ("__debug__" : Str)) = false := by decide) : PE X (.Name x pos) (lE K (dC d)) := by
  obtain ⟨v, u, hm, r, hb⟩ := h
  exact de_c (pe_glob hg hm r hd) hb
theorem de_blt {x : Str} {n : String} {pos : Pos} (hg : Gl X x) (hm : X.mg x = none) (hv : bootBuiltins x = some (.type n)) (hn : x ≠ "__name__" := by decide) (hd : (x == ("__debug__" : Str)) = false := by decide) : PE X (.Name x pos) (lE K (dC (.ty n))) :=
  de_c (pe_bltn (v := .ty n) hg hm hv rfl hn hd) fun _ => .ty n
/-! two operands -/
abbrev DR2 := D → D → Sto → DK → Prop
def dOp (rd : DR2) (da db : DE) : DE := fun δ S k => da δ S fun x S1 => db δ S1 fun y S2 => rd x y S2 k
def Sim2 (K : PySem.W.Frag) (r : R2) (rd : DR2) : Prop := ∀ (B : Hp) (S : Sto) (H : Hp) (v w : V) (x y : D) (k : DK) (Q : VK), R K B S H → RdD K B v x → RdD K B w y → rd x y S k →
  (∀ z S' u B' H', k z S' → Ex B B' → R K B' S' H' → RdD K B' u z → Q u H') → r v w H Q
theorem l_op {r : R2} {rd : DR2} {da db : DE} (hs : Sim2 K r rd) (σ : L2.St) (H : Hp) (Q : VK) : lE K (dOp rd da db) σ H Q → tOp r (lE K da) (lE K db) σ H Q := fun ⟨B, δ, S, k, s, r, h, q⟩ =>
  ⟨B, δ, S, _, s, r, h, fun x S1 v B1 H1 h1 e1 r1 d1 => ⟨B1, δ, S1, _, s.mono e1, r1, h1, fun y S2 w B2 H2 h2 e2 r2 d2 => hs B2 S2 H2 v w x y k Q r2 (d1.mono e2) d2 h2 fun z S' u B' H' hk e' r' d' => q z S' u B' H' hk (e1.trans (e2.trans e')) r' d'⟩⟩
theorem de_op {op : Operator} {r : R2} {rd : DR2} {a b : Expr} {da db : DE} {pos : Pos} (ho : OpR X (binaryOp op) r) (hs : Sim2 K r rd) (ha : PE X a (lE K da)) (hb : PE X b (lE K db)) : PE X (.BinOp a op b pos) (lE K (dOp rd da db)) := peOf (pe_op ho ha hb) (l_op hs)
theorem de_cmp {op : CmpOp} {r : R2} {rd : DR2} {a b : Expr} {da db : DE} {pos : Pos} (ho : OpR X (compareOp op) r) (hs : Sim2 K r rd) (ha : PE X a (lE K da)) (hb : PE X b (lE K db)) (hm : behindInMarks op b = false) : PE X (.Compare a [op] [b] pos) (lE K (dOp rd da db)) := peOf (pe_cmpR ho ha hb hm) (l_op hs)
theorem de_ix {r : R2} {rd : DR2} {a b : Expr} {da db : DE} {pos : Pos} (ho : IxR X r) (hs : Sim2 K r rd) (ha : PE X a (lE K da)) (hb : PE X b (lE K db)) (hp : PlainIx b) : PE X (.Subscript a b pos) (lE K (dOp rd da db)) := peOf (pe_ix ho ha hb hp) (l_op hs)
/-! tests -/
def dTest (de : DE) : DT := fun δ S k => de δ S fun x S1 => match x with
  | .bl b => k b S1
  | _ => False
theorem l_test {de : DE} (σ : L2.St) (H : Hp) (Q : Bool → Hp → Prop) : lT K (dTest de) σ H Q → lE K de σ H fun x H' => ∃ b, x = .bl b ∧ Q b H' := fun ⟨B, δ, S, k, s, r, h, q⟩ => ⟨B, δ, S, _, s, r, h, fun x S1 v B1 H1 h1 e1 r1 d1 => by
  split at h1
  · rename_i b
    exact ⟨b, rd_bl d1, q b S1 B1 H1 h1 e1 r1⟩
  · exact h1.elim⟩
theorem dt_cmp {op : CmpOp} {r : R2} {rd : DR2} {a b : Expr} {da db : DE} {pos : Pos} (ho : OpR X (compareOp op) r) (hs : Sim2 K r rd) (ha : PE X a (lE K da)) (hb : PE X b (lE K db)) (hm : behindInMarks op b = false) : PT X (.Compare a [op] [b] pos) (lT K (dTest (dOp rd da db))) :=
  ptOf (pt_cmpR ho ha hb hm) fun σ H Q h => by
    obtain ⟨B, δ, S, k, s, r', h, q⟩ := l_test σ H Q h
    exact l_op hs σ H _ ⟨B, δ, S, k, s, r', h, q⟩
theorem dt_val {e : Expr} {de : DE} (h : PE X e (lE K de)) (he : ∀ whole, isTrue e X.env whole = (do let v ← whole; standAt e.pos; holding [v] (truthy v)) := by intro _; rfl) : PT X e (lT K (dTest de)) := ptOf (pt_val h he) l_test
def dAnd (t u : DT) : DT := fun δ S k => t δ S fun c S1 => if c = true then u δ S1 k else k false S1
def dOr (t u : DT) : DT := fun δ S k => t δ S fun c S1 => if c = true then k true S1 else u δ S1 k
def dNot (t : DT) : DT := fun δ S k => t δ S fun c S1 => k (!c) S1
section
variable {a b : Expr} {rest : List Expr} {pos : Pos} {t u : DT}
theorem dw_and1 (h : PT X a (lT K t)) : PW X (.BoolOp .And [a] pos) (lT K t) := pw_and1 h
theorem dw_or1 (h : PT X a (lT K t)) : PW X (.BoolOp .Or [a] pos) (lT K t) := pw_or1 h
theorem dw_and (ha : PT X a (lT K t)) (hb : PW X (.BoolOp .And (b :: rest) pos) (lT K u)) : PW X (.BoolOp .And (a :: b :: rest) pos) (lT K (dAnd t u)) := pwOf (pw_and ha hb) fun σ H Q ⟨B, δ, S, k, s, r, h, q⟩ =>
  ⟨B, δ, S, _, s, r, h, fun c S1 B1 H1 h1 e1 r1 => by
    cases c with
    | true => exact ⟨B1, δ, S1, k, s.mono e1, r1, h1, fun c S2 B2 H2 h2 e2 r2 => q c S2 B2 H2 h2 (e1.trans e2) r2⟩
    | false => exact q false S1 B1 H1 h1 e1 r1⟩
theorem dw_or (ha : PT X a (lT K t)) (hb : PW X (.BoolOp .Or (b :: rest) pos) (lT K u)) : PW X (.BoolOp .Or (a :: b :: rest) pos) (lT K (dOr t u)) := pwOf (pw_or ha hb) fun σ H Q ⟨B, δ, S, k, s, r, h, q⟩ =>
  ⟨B, δ, S, _, s, r, h, fun c S1 B1 H1 h1 e1 r1 => by
    cases c with
    | true => exact q true S1 B1 H1 h1 e1 r1
    | false => exact ⟨B1, δ, S1, k, s.mono e1, r1, h1, fun c S2 B2 H2 h2 e2 r2 => q c S2 B2 H2 h2 (e1.trans e2) r2⟩⟩
theorem dt_not (ha : PT X a (lT K t)) : PT X (.UnaryOp .Not a pos) (lT K (dNot t)) := ptOf (pt_not ha) fun σ H Q ⟨B, δ, S, k, s, r, h, q⟩ =>
  ⟨B, δ, S, _, s, r, h, fun c S1 B1 H1 h1 e1 r1 => q (!c) S1 B1 H1 h1 e1 r1⟩
def dAndV (da db : DE) : DE := fun δ S k => da δ S fun x S1 => match x with
  | .bl c => if c = true then db δ S1 k else k (.bl false) S1
  | _ => False
def dOrV (da db : DE) : DE := fun δ S k => da δ S fun x S1 => match x with
  | .bl c => if c = true then k (.bl true) S1 else db δ S1 k
  | _ => False
def dNotV (da : DE) : DE := fun δ S k => da δ S fun x S1 => match x with
  | .bl c => k (.bl (!c)) S1
  | _ => False
variable {da db : DE}
theorem de_one {op} {t : DE} (h : PE X a (lE K t)) : PE X (.BoolOp op [a] pos) (lE K t) := pe_one h
theorem de_and (ha : PE X a (lE K da)) (hb : PE X (.BoolOp .And (b :: rest) pos) (lE K db)) : PE X (.BoolOp .And (a :: b :: rest) pos) (lE K (dAndV da db)) := peOf (pe_and ha hb) fun σ H Q ⟨B, δ, S, k, s, r, h, q⟩ =>
  ⟨B, δ, S, _, s, r, h, fun x S1 v B1 H1 h1 e1 r1 d1 => by
    split at h1
    · rename_i c
      refine ⟨c, rd_bl d1, ?_⟩
      cases c with
      | true => exact ⟨B1, δ, S1, k, s.mono e1, r1, h1, fun c S2 w B2 H2 h2 e2 r2 d2 => q c S2 w B2 H2 h2 (e1.trans e2) r2 d2⟩
      | false => exact q _ S1 _ B1 H1 h1 e1 r1 (.bl false)
    · exact h1.elim⟩
theorem de_or (ha : PE X a (lE K da)) (hb : PE X (.BoolOp .Or (b :: rest) pos) (lE K db)) : PE X (.BoolOp .Or (a :: b :: rest) pos) (lE K (dOrV da db)) := peOf (pe_or ha hb) fun σ H Q ⟨B, δ, S, k, s, r, h, q⟩ =>
  ⟨B, δ, S, _, s, r, h, fun x S1 v B1 H1 h1 e1 r1 d1 => by
    split at h1
    · rename_i c
      refine ⟨c, rd_bl d1, ?_⟩
      cases c with
      | true => exact q _ S1 _ B1 H1 h1 e1 r1 (.bl true)
      | false => exact ⟨B1, δ, S1, k, s.mono e1, r1, h1, fun c S2 w B2 H2 h2 e2 r2 d2 => q c S2 w B2 H2 h2 (e1.trans e2) r2 d2⟩
    · exact h1.elim⟩
def dIf (t : DT) (da db : DE) : DE := fun δ S k => t δ S fun c S1 => if c = true then da δ S1 k else db δ S1 k
theorem de_if {c : Expr} (hc : PT X c (lT K t)) (ha : PE X a (lE K da)) (hb : PE X b (lE K db)) : PE X (.IfExp c a b pos) (lE K (dIf t da db)) := peOf (pe_ifExp hc ha hb) fun σ H Q ⟨B, δ, S, k, s, r, h, q⟩ =>
  ⟨B, δ, S, _, s, r, h, fun c S1 B1 H1 h1 e1 r1 => by
    cases c with
    | true => exact ⟨B1, δ, S1, k, s.mono e1, r1, h1, fun c S2 w B2 H2 h2 e2 r2 d2 => q c S2 w B2 H2 h2 (e1.trans e2) r2 d2⟩
    | false => exact ⟨B1, δ, S1, k, s.mono e1, r1, h1, fun c S2 w B2 H2 h2 e2 r2 d2 => q c S2 w B2 H2 h2 (e1.trans e2) r2 d2⟩⟩
end
/-! rows of expressions; tuples, lists; calls -/
def dNil : DA := fun _ S k => k [] S
def dCons (da : DE) (dr : DA) : DA := fun δ S k => da δ S fun x S1 => dr δ S1 fun xs S2 => k (x :: xs) S2
theorem da_nil : PA X [] (lA K dNil) := paOf pa_nil fun σ H Q ⟨B, δ, S, k, s, r, h, q⟩ => q [] S [] B H h (Ex.refl B) r .nil
theorem da_cons {e : Expr} {es : List Expr} {da : DE} {dr : DA} (ha : PE X e (lE K da)) (hr : PA X es (lA K dr)) (hs : starEach (e :: es) X.env = (false, eval e X.env) :: starEach es X.env := by rfl) : PA X (e :: es) (lA K (dCons da dr)) :=
  paOf (pa_cons ha hr hs) fun σ H Q ⟨B, δ, S, k, s, r, h, q⟩ => ⟨B, δ, S, _, s, r, h, fun x S1 v B1 H1 h1 e1 r1 d1 => ⟨B1, δ, S1, _, s.mono e1, r1, h1, fun xs S2 vs B2 H2 h2 e2 r2 d2 => q _ S2 _ B2 H2 h2 (e1.trans e2) r2 (.cons (d1.mono e2) d2)⟩⟩
def dTup (da : DA) : DE := fun δ S k => da δ S fun xs S1 => xs.length ≤ 100000 ∧ k (.tup xs) S1
theorem de_tup {es : List Expr} {da : DA} {x1 pos} (h : PA X es (lA K da)) : PE X (.Tuple es x1 pos) (lE K (dTup da)) := peOf (pe_tup h) fun σ H Q ⟨B, δ, S, k, s, r, h, q⟩ =>
  ⟨B, δ, S, _, s, r, h, fun xs S1 vs B1 H1 ⟨hl, h1⟩ e1 r1 d1 => ⟨sz_of (by rw [d1.length]; exact hl), fun p hp => q _ S1 _ _ _ h1 (e1.trans (r1.new hp).2) (r1.new hp).1 (.tup (st_of upd_same) (d1.mono (r1.new hp).2))⟩⟩
def dLst (da : DA) : DE := fun δ S k => da δ S fun xs S1 => xs.length ≤ 100000 ∧ k (.list xs) S1
theorem de_lst {es : List Expr} {da : DA} {pos} (h : PA X es (lA K da)) : PE X (.List es pos) (lE K (dLst da)) := peOf (pe_lst h) fun σ H Q ⟨B, δ, S, k, s, r, h, q⟩ =>
  ⟨B, δ, S, _, s, r, h, fun xs S1 vs B1 H1 ⟨hl, h1⟩ e1 r1 d1 => ⟨sz_of (by rw [d1.length]; exact hl), fun p hp => q _ S1 _ _ _ h1 (e1.trans (r1.new hp).2) (r1.new hp).1 (.lst upd_same (d1.mono (r1.new hp).2))⟩⟩
/-- a list that will change -/
def dNew (da : DA) : DE := fun δ S k => da δ S fun xs S1 => xs.length ≤ 100000 ∧ ∀ p, S1 p = none → k (.ref p) (put S1 p (.lst xs))
theorem de_new {es : List Expr} {da : DA} {pos} (h : PA X es (lA K da)) : PE X (.List es pos) (lE K (dNew da)) := peOf (pe_lst h) fun σ H Q ⟨B, δ, S, k, s, r, h, q⟩ =>
  ⟨B, δ, S, _, s, r, h, fun xs S1 vs B1 H1 ⟨hl, h1⟩ e1 r1 d1 => ⟨sz_of (by rw [d1.length]; exact hl), fun p hp => q _ _ _ B1 _ (h1 p (r1.fresh hp).2) e1 (r1.newS hp (.lst d1)) (.ref p)⟩⟩
def dNewD : DE := fun _ S k => ∀ p, S p = none → k (.ref p) (put S p (.dct []))
theorem de_newD {pos} : PE X (.Dict [] [] pos) (lE K dNewD) := peOf pe_dnewK fun σ H Q ⟨B, δ, S, k, s, r, h, q⟩ => fun p hp => q _ _ _ B _ (h p (r.fresh hp).2) (Ex.refl B) (r.newS hp (.dct .nil)) (.ref p)
def dCall (f : SpD) (da : DA) : DE := fun δ S k => da δ S fun xs S1 => f xs S1 k fun _ _ _ => False
theorem l_call {f : SpD} {da : DA} (σ : L2.St) (H : Hp) (Q : VK) : lE K (dCall f da) σ H Q → tCall (lSp K f) [] E0 (lA K da) σ H Q := fun ⟨B, δ, S, k, s, r, h, q⟩ =>
  ⟨B, δ, S, _, s, r, h, fun xs S1 vs B1 H1 h1 e1 r1 d1 => ⟨B1, xs, S1, k, _, by rw [List.append_nil]; exact d1, r1, h1, fun x S' v B' H' hk e' => q x S' v B' H' hk (e1.trans e'), fun _ _ _ _ _ z => z.elim⟩⟩
/-- a def with its promise over data -/
abbrev DefD (P : Program) (w : World) (K : PySem.W.Frag) (mg : Str → Option Value) (base : Heap) (k : Nat) (x : Str) (ps : List Str) (f : SpD) : Prop := Def P w K mg base k x ps (lSp K f)
theorem de_call {k : Nat} {x : Str} {ps : List Str} {f : SpD} {p pos : Pos} {e : Expr} {es : List Expr} {da : DA} (h : Def X.prog X.w X.K X.mg X.base k x ps (lSp K f)) (hr : Room k X.A) (hg : Gl X x) (ha : PA X (e :: es) (lA K da))
    (hdb : (x == ("__debug__" : Str)) = false := by decide) (he : starEach (e :: es) X.env = (false, eval e X.env) :: starEach es X.env := by rfl) (hpl : (backTo pos (starEach es X.env)).any (·.1) = false := by rfl) :
    PE X (.Call (.Name x p) (e :: es) [] pos) (lE K (dCall f da)) := peOf (pe_def h hr hg ha hdb he hpl) l_call
/-! calls of built-ins -/
def SimC (K : PySem.W.Frag) (r : List V → Hp → VK → Prop) (rd : List D → Sto → DK → Prop) : Prop := ∀ (B : Hp) (S : Sto) (H : Hp) (vs : List V) (xs : List D) (k : DK) (Q : VK), R K B S H → RdL K B vs xs → rd xs S k →
  (∀ z S' u B' H', k z S' → Ex B B' → R K B' S' H' → RdD K B' u z → Q u H') → r vs H Q
def dCB (rd : List D → Sto → DK → Prop) (da : DA) : DE := fun δ S k => da δ S fun xs S1 => rd xs S1 k
theorem l_cb {r : List V → Hp → VK → Prop} {rd : List D → Sto → DK → Prop} {da : DA} (hs : SimC K r rd) (σ : L2.St) (H : Hp) (Q : VK) : lE K (dCB rd da) σ H Q → tCB r (lA K da) σ H Q := fun ⟨B, δ, S, k, s, r, h, q⟩ =>
  ⟨B, δ, S, _, s, r, h, fun xs S1 vs B1 H1 h1 e1 r1 d1 => hs B1 S1 H1 vs xs k Q r1 d1 h1 fun z S' u B' H' hk e' r' d' => q z S' u B' H' hk (e1.trans e') r' d'⟩
theorem de_callB {id : String} {x : Str} {p pos : Pos} {e : Expr} {es : List Expr} {da : DA} {r : List V → Hp → VK → Prop} {rd : List D → Sto → DK → Prop} (hc : CallR X (.builtin id) r) (hs : SimC K r rd) (hg : Gl X x) (hm : X.mg x = none) (hv : bootBuiltins x = some (.builtin id)) (ha : PA X (e :: es) (lA K da)) (hn : x ≠ "__name__" := by decide) (hdb : (x == ("__debug__" : Str)) = false := by decide)
    (he : starEach (e :: es) X.env = (false, eval e X.env) :: starEach es X.env := by rfl) (hpl : (backTo pos (starEach es X.env)).any (·.1) = false := by rfl) : PE X (.Call (.Name x p) (e :: es) [] pos) (lE K (dCB rd da)) := peOf (pe_callB hc hg hm hv ha hn hdb he hpl) (l_cb hs)
theorem de_callTy {T : String} {x : Str} {p pos : Pos} {e : Expr} {es : List Expr} {da : DA} {r : List V → Hp → VK → Prop} {rd : List D → Sto → DK → Prop} (hc : CallR X (.type T) r) (hs : SimC K r rd) (hg : Gl X x) (hm : X.mg x = none) (hv : bootBuiltins x = some (.type T)) (ha : PA X (e :: es) (lA K da)) (hn : x ≠ "__name__" := by decide) (hdb : (x == ("__debug__" : Str)) = false := by decide)
    (he : starEach (e :: es) X.env = (false, eval e X.env) :: starEach es X.env := by rfl) (hpl : (backTo pos (starEach es X.env)).any (·.1) = false := by rfl) : PE X (.Call (.Name x p) (e :: es) [] pos) (lE K (dCB rd da)) := peOf (pe_callTy hc hg hm hv ha hn hdb he hpl) (l_cb hs)
end
end DL

set_option Elab.async false
set_option linter.all false
set_option maxRecDepth 100000
namespace DL
open PySem L2 Evl EX
/-! ### statements -/
section
variable {X : Cx} {K : PySem.W.Frag} {W : WXD} {st : Stmt} {rest : List Stmt} {d e : DS} {pos : Pos}
def dNext : DS := fun D δ S => D.nx δ S
def dSeq (d e : DS) : DS := fun D δ S => d { D with nx := e D } δ S
def dCut (d e : DS) : DS := fun D δ S => ∃ M : Dst → Sto → Prop, d { D with nx := M } δ S ∧ ∀ δ' S', M δ' S' → e D δ' S'
theorem dss_nil : PSs X [] (lS K W dNext) := pssOf pss_nil fun E σ H ⟨B, δ, S, D, s, r, h, l⟩ => l.nx δ S σ B H h (Ex.refl B) s r
theorem dss_one (h : PS X st (lS K W d)) : PSs X [st] (lS K W d) := pssOf (pss_one h) fun E σ H h => h
theorem dss_cons (h1 : PS X st (lS K W d)) (h2 : PSs X rest (lS K W e)) : PSs X (st :: rest) (lS K W (dSeq d e)) := pssOf (pss_cons h1 h2) fun E σ H ⟨B, δ, S, D, s, r, h, l⟩ =>
  ⟨B, δ, S, _, s, r, h, fun δ1 S1 σ1 B1 H1 h1 e1 s1 r1 => ⟨B1, δ1, S1, D, s1, r1, h1, l.mono e1⟩, l.rt, l.bk, l.ct, l.xx⟩
theorem dss_cut (h1 : PS X st (lS K W d)) (h2 : PSs X rest (lS K W e)) : PSs X (st :: rest) (lS K W (dCut d e)) := pssOf (pss_cons h1 h2) fun E σ H ⟨B, δ, S, D, s, r, ⟨M, h, hm⟩, l⟩ =>
  ⟨B, δ, S, _, s, r, h, fun δ1 S1 σ1 B1 H1 h1 e1 s1 r1 => ⟨B1, δ1, S1, D, s1, r1, hm δ1 S1 h1, l.mono e1⟩, l.rt, l.bk, l.ct, l.xx⟩
def dDrop (de : DE) : DS := fun D δ S => de δ S fun _ S1 => D.nx δ S1
def dRet (de : DE) : DS := fun D δ S => de δ S D.rt
def dRetN : DS := fun D _ S => D.rt .non S
def dIfS (t : DT) (d e : DS) : DS := fun D δ S => t δ S fun b S1 => if b = true then d D δ S1 else e D δ S1
def dPass : DS := fun D δ S => D.nx δ S
def dBreak : DS := fun D δ S => D.bk δ S
def dCont : DS := fun D δ S => D.ct δ S
def dNever : DS := fun _ _ _ => False
variable {ex : Expr} {de : DE} {t : DT}
theorem ds_expr (h : PE X ex (lE K de)) (hs : swapsWith ex none pos.line X.env = pure false := by rfl) : PS X (.Expr ex pos) (lS K W (dDrop de)) := psOf (ps_expr h hs) fun E σ H ⟨B, δ, S, D, s, r, h, l⟩ =>
  ⟨B, δ, S, _, s, r, h, fun x S1 v B1 H1 h1 e1 r1 _ => l.nx δ S1 σ B1 H1 h1 e1 (s.mono e1) r1⟩
theorem ds_ret (h : PE X ex (lE K de)) : PS X (.Return (some ex) pos) (lS K W (dRet de)) := psOf (ps_ret h) fun E σ H ⟨B, δ, S, D, s, r, h, l⟩ => ⟨B, δ, S, _, s, r, h, l.rt⟩
theorem ds_retN : PS X (.Return none pos) (lS K W dRetN) := psOf ps_retN fun E σ H ⟨B, δ, S, D, s, r, h, l⟩ => l.rt _ S _ B H h (Ex.refl B) r .non
theorem ds_if {c : Expr} {a b : List Stmt} (hc : PT X c (lT K t)) (ha : PSs X a (lS K W d)) (hb : PSs X b (lS K W e)) : PS X (.If c a b pos) (lS K W (dIfS t d e)) := psOf (ps_if hc ha hb) fun E σ H ⟨B, δ, S, D, s, r, h, l⟩ =>
  ⟨B, δ, S, _, s, r, h, fun b S1 B1 H1 h1 e1 r1 => by
    cases b with
    | true => exact ⟨B1, δ, S1, D, s.mono e1, r1, h1, l.mono e1⟩
    | false => exact ⟨B1, δ, S1, D, s.mono e1, r1, h1, l.mono e1⟩⟩
theorem ds_never : PS X st (lS K W dNever) := psOf ps_never fun E σ H ⟨B, δ, S, D, s, r, h, l⟩ => h.elim
/-! targets -/
abbrev DG := D → Dst → Sto → (Dst → Sto → Prop) → Prop
abbrev DGs := List D → Dst → Sto → (Dst → Sto → Prop) → Prop
def lG (K : PySem.W.Frag) (g : DG) : TG := fun v σ H Q => ∃ B δ S x k, Sl K B σ δ ∧ R K B S H ∧ RdD K B v x ∧ g x δ S k ∧ ∀ δ' S' σ' B' H', k δ' S' → Ex B B' → Sl K B' σ' δ' → R K B' S' H' → Q σ' H'
def lGs (K : PySem.W.Frag) (g : DGs) : TGs := fun v σ H Q => ∃ B δ S x k, Sl K B σ δ ∧ R K B S H ∧ RdL K B v x ∧ g x δ S k ∧ ∀ δ' S' σ' B' H', k δ' S' → Ex B B' → Sl K B' σ' δ' → R K B' S' H' → Q σ' H'
theorem pgsOf {tg : List Expr} {t u : TGs} (h : PGs X tg t) (k : ∀ v σ H Q, u v σ H Q → t v σ H Q) : PGs X tg u := by
  obtain ⟨r⟩ := h
  exact ⟨fun pins s σ H v w Q I rv q => r pins s σ H v w Q I rv (k v σ H Q q)⟩
def gN (i : Nat) : DG := fun x δ S k => k (δ.set i (some x)) S
theorem dg_name {i : Nat} {x : Str} (hN : X.N.Nodup) (hi : X.N[i]? = some x) (hx : Loc X.env.scope x) (hf : X.fn x = true ∨ X.env.scope.names.lookup x = some .local := by first | exact .inl rfl | exact .inr rfl | assumption) : PG X (.Name x pos) (lG K (gN i)) :=
  pgOf (pg_name hN hi hx hf) fun v σ H Q ⟨B, δ, S, x, k, s, r, rd, h, q⟩ => q _ S _ B H h (Ex.refl B) (s.set rd i) r
def gsNil : DGs := fun xs δ S k => match xs with
  | [] => k δ S
  | _ => False
def gsCons (g : DG) (gs : DGs) : DGs := fun xs δ S k => match xs with
  | x :: r => g x δ S fun δ' S' => gs r δ' S' k
  | [] => False
def gT (n : Nat) (gs : DGs) : DG := fun x δ S k => match x with
  | .tup ds => ds.length = n ∧ gs ds δ S k
  | _ => False
theorem dgs_nil : PGs X [] (lGs K gsNil) := pgsOf pgs_nil fun v σ H Q ⟨B, δ, S, x, k, s, r, rd, h, q⟩ => by
  unfold gsNil at h
  split at h
  · cases rd
    exact ⟨rfl, q δ S σ B H h (Ex.refl B) s r⟩
  · exact h.elim
theorem dgs_cons {e : Expr} {es : List Expr} {g : DG} {gs : DGs} (h1 : PG X e (lG K g)) (h2 : PGs X es (lGs K gs)) (hs : (assignEach (e :: es) X.env).map (·.2) = assign e X.env :: (assignEach es X.env).map (·.2) := by rfl) : PGs X (e :: es) (lGs K (gsCons g gs)) :=
  pgsOf (pgs_cons h1 h2 hs) fun v σ H Q ⟨B, δ, S, x, k, s, r, rd, h, q⟩ => by
    unfold gsCons at h
    split at h
    · rename_i d ds
      cases rd with
      | cons rd rds => exact ⟨_, _, rfl, B, δ, S, d, _, s, r, rd, h, fun δ1 S1 σ1 B1 H1 h1 e1 s1 r1 => ⟨B1, δ1, S1, ds, k, s1, r1, rds.mono e1, h1, fun δ' S' σ' B' H' hk e' => q δ' S' σ' B' H' hk (e1.trans e')⟩⟩
    · exact h.elim
theorem dg_tup {n : Nat} {es : List Expr} {k : Nat} {g : DGs} (hc : X.calm = true) (h : PGs X es (lGs K g)) (hn : (assignEach es X.env).length = n := by rfl) (hst : (assignEach es X.env).findIdx? (·.1) = none := by rfl) (hk : X.K = K := by rfl) : PG X (.Tuple es k pos) (lG K (gT n g)) :=
  pgOf (pg_tup hc h hn hst) fun v σ H Q ⟨B, δ, S, x, k, s, r, rd, hz, q⟩ => by
    unfold gT at hz
    split at hz
    · rename_i ds
      obtain ⟨a, xs, hv, hs, hl⟩ := rd_tup rd
      subst hk
      exact ⟨a, xs, hv, ex_t r.ex hs, by rw [hl.length]; exact hz.1, B, δ, S, ds, k, s, r, hl, hz.2, q⟩
    · exact hz.elim
def dAsg (de : DE) (g : DG) : DS := fun D δ S => de δ S fun x S1 => g x δ S1 D.nx
theorem ds_asg {tg : Expr} {g : DG} (h : PE X ex (lE K de)) (hg : PG X tg (lG K g)) (hs : swapsWithSole [tg] ex pos.line X.env = pure false := by rfl) (hw : swappedStores [tg] ex X.env = pure none := by rfl)
    (h1 : (assignEach [tg] X.env).map (·.2) = [assign tg X.env] := by rfl) : PS X (.Assign [tg] ex pos) (lS K W (dAsg de g)) := psOf (ps_asg h hg hs hw h1) fun E σ H ⟨B, δ, S, D, s, r, h, l⟩ =>
  ⟨B, δ, S, _, s, r, h, fun x S1 v B1 H1 h1 e1 r1 d1 => ⟨B1, δ, S1, x, _, s.mono e1, r1, d1, h1, fun δ' S' σ' B' H' hk e' s' r' => l.nx δ' S' σ' B' H' hk (e1.trans e') s' r'⟩⟩
def dSet (de : DE) (i : Nat) : DS := fun D δ S => de δ S fun x S1 => D.nx (δ.set i (some x)) S1
theorem ds_set {i : Nat} {x : Str} {pos' : Pos} (hN : X.N.Nodup) (hi : X.N[i]? = some x) (hx : Loc X.env.scope x) (h : PE X ex (lE K de)) (hs : swapsWith ex (some (.Name x pos')) pos.line X.env = pure false := by rfl) (hf : X.fn x = true ∨ X.env.scope.names.lookup x = some .local := by first | exact .inl rfl | exact .inr rfl | assumption) :
    PS X (.Assign [.Name x pos'] ex pos) (lS K W (dSet de i)) := psOf (ps_set hN hi hx h hs hf) fun E σ H ⟨B, δ, S, D, s, r, h, l⟩ =>
  ⟨B, δ, S, _, s, r, h, fun x S1 v B1 H1 h1 e1 r1 d1 => l.nx _ S1 _ B1 H1 h1 e1 ((s.mono e1).set d1 i) r1⟩
/-! what is walked -/
abbrev DI := Dst → Sto → (List D → Sto → Prop) → Prop
structure ItOk (K : PySem.W.Frag) (B : Hp) (J : It) (ds : List D) : Prop where
  go : ∀ i H, Ex B H → i < ds.length → J.go i H
  stop : ∀ i H, Ex B H → ds.length ≤ i → J.stop i H
  yld : ∀ i H x H' B1 S, Ex B B1 → R K B1 S H → i < ds.length → J.yld i H x H' → ∃ d B2, ds[i]? = some d ∧ Ex B1 B2 ∧ R K B2 S H' ∧ RdD K B2 x d
def lI (K : PySem.W.Frag) (di : DI) : TI := fun σ H Rr => ∃ B δ S k, Sl K B σ δ ∧ R K B S H ∧ di δ S k ∧ ∀ ds S' B' H' J, k ds S' → Ex B B' → R K B' S' H' → ItOk K B' J ds → Rr J H'
theorem piOf {tg it : Expr} {t u : TI} (h : PI X tg it t) (k : ∀ σ H Q, u σ H Q → t σ H Q) : PI X tg it u := ⟨fun pins s σ H Q I q => h.run pins s σ H Q I (k σ H Q q)⟩
section
variable {tg l : Expr} {da : DA}
theorem itok_list {B : Hp} {a : Addr} {xs : List V} {ds : List D} (h : SqL K B a xs) (r : RdL K B xs ds) : ItOk K B (Itl K a) ds := by
  refine ⟨fun i H e hi => ?_, fun i H e hi => ⟨xs, ex_l e h, by rw [r.length]; exact hi⟩, fun i H x H' B1 S e1 r1 hi hy => ?_⟩
  · have : i < xs.length := by rw [r.length]; exact hi
    exact ⟨xs, xs[i], ex_l e h, List.getElem?_eq_getElem this⟩
  · obtain ⟨rfl, hy⟩ := hy
    have hx := hy xs (ex_l (e1.trans r1.ex) h)
    obtain ⟨d, hd, rd⟩ := r.getV hx
    exact ⟨d, B1, hd, Ex.refl B1, r1, rd.mono e1⟩
theorem itok_tup {B : Hp} {a : Addr} {xs : List V} {ds : List D} (h : SqT K B a xs) (r : RdL K B xs ds) : ItOk K B (Itt K a) ds := by
  refine ⟨fun i H e hi => ?_, fun i H e hi => ⟨xs, ex_t e h, by rw [r.length]; exact hi⟩, fun i H x H' B1 S e1 r1 hi hy => ?_⟩
  · have : i < xs.length := by rw [r.length]; exact hi
    exact ⟨xs, xs[i], ex_t e h, List.getElem?_eq_getElem this⟩
  · obtain ⟨rfl, hy⟩ := hy
    have hx := hy xs (ex_t (e1.trans r1.ex) h)
    obtain ⟨d, hd, rd⟩ := r.getV hx
    exact ⟨d, B1, hd, Ex.refl B1, r1, rd.mono e1⟩
def diL (de : DE) : DI := fun δ S k => de δ S fun x S1 => match x with
  | .list ds => k ds S1
  | .scr ds => k ds S1
  | _ => False
theorem di_list (h : PE X l (lE K de)) (hk : X.K = K := by rfl) : PI X tg l (lI K (diL de)) := piOf (piL h hk) fun σ H Q ⟨B, δ, S, k, s, r, h, q⟩ =>
  ⟨B, δ, S, _, s, r, h, fun x S1 v B1 H1 h1 e1 r1 d1 => by
    split at h1
    · obtain ⟨a, xs, rfl, ha, rl⟩ := rd_list d1
      exact ⟨a, rfl, ⟨xs, sq_of (r1.ex _ _ ha)⟩, q _ S1 B1 H1 _ h1 e1 r1 (itok_list (sq_of ha) rl)⟩
    · obtain ⟨a, xs, rfl, ha, rl⟩ := rd_scr d1
      exact ⟨a, rfl, ⟨xs, ex_l r1.ex ha⟩, q _ S1 B1 H1 _ h1 e1 r1 (itok_list ha rl)⟩
    · exact h1.elim⟩
def diT (de : DE) : DI := fun δ S k => de δ S fun x S1 => match x with
  | .tup ds => k ds S1
  | _ => False
theorem di_tup (h : PE X l (lE K de)) (hk : X.K = K := by rfl) : PI X tg l (lI K (diT de)) := piOf (piT h hk) fun σ H Q ⟨B, δ, S, k, s, r, h, q⟩ =>
  ⟨B, δ, S, _, s, r, h, fun x S1 v B1 H1 h1 e1 r1 d1 => by
    split at h1
    · obtain ⟨a, xs, rfl, ha, rl⟩ := rd_tup d1
      exact ⟨a, rfl, ⟨xs, ex_t r1.ex ha⟩, q _ S1 B1 H1 _ h1 e1 r1 (itok_tup ha rl)⟩
    · exact h1.elim⟩
def rngD (lo : Int) (n : Nat) : List D := (List.range n).map fun (i : Nat) => .int (lo + (i : Int))
theorem rngD_len (lo : Int) (n : Nat) : (rngD lo n).length = n := by simp [rngD]
theorem rngD_get {lo : Int} {n i : Nat} {d : D} (h : (rngD lo n)[i]? = some d) : d = .int (lo + (i : Int)) ∧ i < n := by
  unfold rngD at h
  rw [List.getElem?_map] at h
  by_cases hi : i < n
  · rw [List.getElem?_range hi] at h
    cases h
    exact ⟨rfl, hi⟩
  · rw [List.getElem?_eq_none (by simpa using hi)] at h
    cases h
theorem itok_rng {B : Hp} (lo : Int) (n : Nat) : ItOk K B (Itr lo n) (rngD lo n) := by
  refine ⟨fun i H e hi => by rw [rngD_len] at hi; exact hi, fun i H e hi => by rw [rngD_len] at hi; exact hi, fun i H x H' B1 S e1 r1 hi hy => ?_⟩
  obtain ⟨rfl, rfl⟩ := hy
  rw [rngD_len] at hi
  exact ⟨.int (lo + i), B1, by unfold rngD; rw [List.getElem?_map, List.getElem?_range hi]; rfl, Ex.refl B1, r1, .int _⟩
def diR1 (da : DA) : DI := fun δ S k => da δ S fun xs S1 => match xs with
  | [.int j] => -(2 ^ 62) ≤ j ∧ j < 2 ^ 62 ∧ k (rngD 0 j.toNat) S1
  | _ => False
theorem di_range1 {a : Expr} {p pos : Pos} (hg : Gl X "range") (hm : X.mg "range" = none) (ha : PA X [a] (lA K da)) (hs : starEach [a] X.env = [(false, eval a X.env)] := by rfl) : PI X tg (.Call (.Name "range" p) [a] [] pos) (lI K (diR1 da)) :=
  piOf (pi_range1 hg hm ha hs) fun σ H Q ⟨B, δ, S, k, s, r, h, q⟩ => ⟨B, δ, S, _, s, r, h, fun xs S1 vs B1 H1 h1 e1 r1 d1 => by
    split at h1
    · rename_i j
      cases d1 with
      | cons d1 dr =>
        cases dr
        rw [rd_int d1]
        exact ⟨j, rfl, h1.1, h1.2.1, q _ S1 B1 H1 _ h1.2.2 e1 r1 (itok_rng 0 _)⟩
    · exact h1.elim⟩
def diR2 (da : DA) : DI := fun δ S k => da δ S fun xs S1 => match xs with
  | [.int i, .int j] => (-(2 ^ 62) ≤ i ∧ i < 2 ^ 62 ∧ -(2 ^ 62) ≤ j ∧ j < 2 ^ 62) ∧ k (rngD i (j - i).toNat) S1
  | _ => False
def diStr (de : DE) : DI := fun δ S k => de δ S fun x S1 => match x with
  | .str z => k (z.cps.toList.map fun c => .str ⟨#[c]⟩) S1
  | _ => False
def enumD (ds : List D) : List D := (List.range ds.length).map fun (i : Nat) => .tup [.int (i : Int), ds.getD i .non]
def diEnum (da : DA) : DI := fun δ S k => da δ S fun xs S1 => match xs with
  | [.list ds] => k (enumD ds) S1
  | [.scr ds] => k (enumD ds) S1
  | _ => False
end
/-! loops -/
def dFor (di : DI) (g : DG) (b : DS) : DS := fun D δ S => di δ S fun ds S1 => ∃ I : Nat → Dst → Sto → Prop, I 0 δ S1 ∧
  (∀ n d δ' S', ds[n]? = some d → I n δ' S' → g d δ' S' fun δ2 S2 => b { D with nx := I (n + 1), ct := I (n + 1), bk := D.nx } δ2 S2) ∧ ∀ δ' S', I ds.length δ' S' → D.nx δ' S'
theorem ds_for {iter tg : Expr} {body : List Stmt} {di : DI} {g : DG} (hp : PassesOwn (model X.prog X.w) X.A X.env X.xe) (hc : X.calm = true) (hi : PI X tg iter (lI K di)) (hg : PG X tg (lG K g)) (hb : PSs X body (lS K W d)) (hs : ∀ x, foldedSetIterable iter X.env x = pure x := by intro _; rfl)
    : PS X (.For tg iter body [] pos) (lS K W (dFor di g d)) := psOf (ps_for hp hc hi hg hb hs) fun E σ H ⟨B, δ, S, D, s, r, h, l⟩ =>
  ⟨B, δ, S, _, s, r, h, fun ds S1 B1 H1 J ⟨I, h0, hs, hd⟩ e1 r1 it => by
    refine ⟨fun i m σ' H' => m = ds.length - i ∧ i ≤ ds.length ∧ ∃ B2 δ2 S2, Ex B1 B2 ∧ Sl K B2 σ' δ2 ∧ R K B2 S2 H' ∧ I i δ2 S2, ⟨ds.length, rfl, Nat.zero_le _, B1, δ, S1, Ex.refl B1, s.mono e1, r1, h0⟩, ?_⟩
    rintro i m σ' H' ⟨rfl, hi, B2, δ2, S2, e2, s2, r2, hI⟩
    by_cases hlt : i < ds.length
    · refine .inr ⟨it.go i H' (e2.trans r2.ex) hlt, fun σ3 H3 => ∃ B3 δ3 S3, Ex B1 B3 ∧ Sl K B3 σ3 δ3 ∧ R K B3 S3 H3 ∧ I (i + 1) δ3 S3, fun σ3 H3 hn => ⟨ds.length - (i + 1), by omega, rfl, by omega, hn⟩, fun x H3 hy => ?_⟩
      obtain ⟨d', B3, hd', e3, r3, rd⟩ := it.yld i H' x H3 B2 S2 e2 r2 hlt hy
      refine ⟨B3, δ2, S2, d', _, s2.mono e3, r3, rd, hs i d' δ2 S2 hd' hI, fun δ4 S4 σ4 B4 H4 h4 e4 s4 r4 => ⟨B4, δ4, S4, _, s4, r4, h4, ?_⟩⟩
      have e14 : Ex B1 B4 := e2.trans (e3.trans e4)
      exact ⟨fun δ5 S5 σ5 B5 H5 h5 e5 s5 r5 => ⟨B5, δ5, S5, e14.trans e5, s5, r5, h5⟩, fun x S v B' H' hk e' => l.rt x S v B' H' hk (e1.trans (e14.trans e')), fun δ5 S5 σ5 B5 H5 h5 e5 s5 r5 => l.nx δ5 S5 σ5 B5 H5 h5 (e1.trans (e14.trans e5)) s5 r5,
        fun δ5 S5 σ5 B5 H5 h5 e5 s5 r5 => ⟨B5, δ5, S5, e14.trans e5, s5, r5, h5⟩, fun c od δ5 S5 σ5 B5 H5 h5 e5 => l.xx c od δ5 S5 σ5 B5 H5 h5 (e1.trans (e14.trans e5))⟩
    · have ei : i = ds.length := by omega
      subst ei
      exact .inl ⟨it.stop _ H' (e2.trans r2.ex) (Nat.le_refl _), l.nx δ2 S2 σ' B2 H' (hd δ2 S2 hI) (e1.trans e2) s2 r2⟩⟩
def dWhile (t : DT) (b : DS) : DS := fun D δ S => ∃ W : Nat → Dst → Sto → Prop, (∃ m, W m δ S) ∧ ∀ m δ' S', W m δ' S' → t δ' S' fun c S1 => if c = true then b { D with nx := fun δ2 S2 => ∃ m', m' < m ∧ W m' δ2 S2, ct := fun δ2 S2 => ∃ m', m' < m ∧ W m' δ2 S2, bk := D.nx } δ' S1 else D.nx δ' S1
theorem ds_while {c : Expr} {body : List Stmt} (hp : PassesOwn (model X.prog X.w) X.A X.env X.xe) (hc : PT X c (lT K t)) (hb : PSs X body (lS K W d)) : PS X (.While c body [] pos) (lS K W (dWhile t d)) := psOf (ps_while hp hc hb) fun E σ H ⟨B, δ, S, D, s, r, ⟨Wm, ⟨m0, w0⟩, h⟩, l⟩ => by
  refine ⟨fun m σ' H' => ∃ B2 δ2 S2, Ex B B2 ∧ Sl K B2 σ' δ2 ∧ R K B2 S2 H' ∧ Wm m δ2 S2, ⟨m0, B, δ, S, Ex.refl B, s, r, w0⟩, ?_⟩
  rintro m σ' H' ⟨B2, δ2, S2, e2, s2, r2, hW⟩
  refine ⟨B2, δ2, S2, _, s2, r2, h m δ2 S2 hW, fun c S3 B3 H3 h3 e3 r3 => ?_⟩
  cases c with
  | true =>
    refine ⟨fun σ4 H4 => ∃ m', m' < m ∧ ∃ B2 δ2 S2, Ex B B2 ∧ Sl K B2 σ4 δ2 ∧ R K B2 S2 H4 ∧ Wm m' δ2 S2, fun σ4 H4 h4 => h4, B3, δ2, S3, _, s2.mono e3, r3, h3, ?_⟩
    have e13 := e2.trans e3
    exact ⟨fun δ5 S5 σ5 B5 H5 ⟨m', hm, h5⟩ e5 s5 r5 => ⟨m', hm, B5, δ5, S5, e13.trans e5, s5, r5, h5⟩, fun x S v B' H' hk e' => l.rt x S v B' H' hk (e13.trans e'), fun δ5 S5 σ5 B5 H5 h5 e5 s5 r5 => l.nx δ5 S5 σ5 B5 H5 h5 (e13.trans e5) s5 r5,
      fun δ5 S5 σ5 B5 H5 ⟨m', hm, h5⟩ e5 s5 r5 => ⟨m', hm, B5, δ5, S5, e13.trans e5, s5, r5, h5⟩, fun c od δ5 S5 σ5 B5 H5 h5 e5 => l.xx c od δ5 S5 σ5 B5 H5 h5 (e13.trans e5)⟩
  | false => exact l.nx δ2 S3 σ' B3 H3 h3 (e2.trans e3) (s2.mono e3) r3
end
/-! ### a def -/
def startD (N : List Str) (ds : List D) : Dst := ds.map some ++ List.replicate (N.length - ds.length) none
theorem sl_start {K : PySem.W.Frag} {B : Hp} {N : List Str} {vs : List V} {ds : List D} (h : RdL K B vs ds) : Sl K B (L2.start N vs) (startD N ds) := by
  have hl := h.length
  refine ⟨by simp [L2.start, startD, hl], fun i d e => ?_⟩
  unfold startD at e
  by_cases hi : i < ds.length
  · rw [List.getElem?_append_left (by simpa using hi), List.getElem?_map] at e
    obtain ⟨d', h1, h2⟩ := Option.map_eq_some_iff.mp e
    cases h2
    obtain ⟨v, hv, rd⟩ := h.get h1
    refine ⟨v, ?_, rd⟩
    unfold L2.start
    rw [List.getElem?_append_left (by rw [List.length_map]; omega), List.getElem?_map, hv]
    rfl
  · rw [List.getElem?_append_right (by simpa using hi)] at e
    have := List.mem_of_getElem? e
    simp at this
section
variable {P : Program} {w : World} {K : PySem.W.Frag} {mg : Str → Option Value} {base : Heap}
theorem dok {x qual : Str} {st : Stmt} {f : Addr} {fd : FuncData} {N ps : List Str} {k : Nat} {sp : SpD} (F : Fun K x qual st f fd) (Sc : FnScope N ps (defScope st)) (len : ∀ ds S q qx, sp ds S q qx → ds.length = ps.length)
    (h : ∃ d : DS, (∀ (cdv : Value) (A : Around) (outer : List Env) (s : Shared) (H : Hp) (E : XK), Room k (A.deeper (PyProof.Rows.envOfC qual (defScope st) s.heap.objs.size f cdv)) → PSs (cxOf CX0 P w K mg base N qual (defScope st) f cdv A outer s H E).nox (defBody st) (lS K (fun _ _ _ _ => False) d)) ∧
      ∀ ds S q qx, sp ds S q qx → d { nx := fun _ S' => q .non S', rt := q } (startD N ds) S) : FnOk P w K mg base CX0 (k + 1) f fd ps (lSp K sp) := by
  obtain ⟨d, hd, hs⟩ := h
  refine F.ok Sc (fun vs H Q E ⟨B, ds, S, q, qx, rd, r, h, _⟩ => by rw [rd.length]; exact len ds S q qx h) (fun cdv A outer s H vs Q E hr ⟨B, ds, S, q, qx, rd, r, h, hq, _⟩ => ?_)
  refine ⟨_, hd cdv A outer s H E hr, B, startD N ds, S, _, sl_start rd, r, hs ds S q qx h, ?_⟩
  exact ⟨fun δ S' σ B' H' hk e' _ r' => hq .non S' .non B' H' hk e' r' .non, fun x S' v B' H' hk e' r' rd' => hq x S' v B' H' hk e' r' rd', fun _ _ _ _ _ z => z.elim, fun _ _ _ _ _ z => z.elim, fun _ _ _ _ _ _ _ z => z.elim⟩
end
end DL

set_option Elab.async false
set_option linter.all false
set_option maxRecDepth 100000
namespace DL
open PySem L2 Evl EX
/-! ### comprehensions -/
def wipeD (δ : Dst) : List Nat → Dst
  | [] => δ
  | v :: vs => (wipeD δ vs).set v none
theorem wipe_at (σ : L2.St) (i : Nat) : ∀ vs : List Nat, (wipe σ vs)[i]? = if i ∈ vs ∧ i < σ.length then some none else σ[i]?
  | [] => by simp [wipe]
  | v :: vs => by
    unfold wipe
    by_cases h : v = i
    · subst h
      by_cases hl : v < σ.length
      · rw [List.getElem?_set_self (by rw [wipe_length]; exact hl), if_pos ⟨List.mem_cons_self, hl⟩]
      · rw [List.getElem?_eq_none (by rw [List.length_set, wipe_length]; omega), if_neg (fun z => hl z.2), List.getElem?_eq_none (by omega)]
    · rw [List.getElem?_set_ne h, wipe_at σ i vs]
      have : (i ∈ v :: vs) ↔ i ∈ vs := by simp [List.mem_cons, Ne.symm h]
      simp [this]
theorem wipe_same {σ τ : L2.St} {vs : List Nat} (hl : σ.length = τ.length) (h : ∀ i, i ∉ vs → σ[i]? = τ[i]?) : wipe σ vs = wipe τ vs := by
  apply List.ext_getElem?
  intro i
  rw [wipe_at, wipe_at, hl]
  by_cases hi : i ∈ vs
  · by_cases h2 : i < τ.length
    · rw [if_pos ⟨hi, h2⟩, if_pos ⟨hi, h2⟩]
    · rw [if_neg (fun z => h2 z.2), if_neg (fun z => h2 z.2), List.getElem?_eq_none (by omega), List.getElem?_eq_none (by omega)]
  · rw [if_neg (fun z => hi z.1), if_neg (fun z => hi z.1)]
    exact h i hi
theorem Sl.setN {K : PySem.W.Frag} {B : Hp} {σ : L2.St} {δ : Dst} (s : Sl K B σ δ) (j : Nat) : Sl K B (σ.set j none) (δ.set j none) := by
  refine ⟨by simp [s.len], fun i d e => ?_⟩
  by_cases h : j = i
  · subst h
    by_cases hl : j < δ.length
    · rw [List.getElem?_set_self hl] at e; cases e
    · rw [List.getElem?_eq_none (by simpa using hl)] at e; cases e
  · rw [List.getElem?_set_ne h] at e ⊢
    exact s.at_ i d e
theorem Sl.wipe {K : PySem.W.Frag} {B : Hp} {σ : L2.St} {δ : Dst} (s : Sl K B σ δ) : ∀ vs, Sl K B (L2.wipe σ vs) (wipeD δ vs)
  | [] => s
  | v :: vs => (Sl.wipe s vs).setN v
abbrev DGc := D → Dst → (Dst → Prop) → Prop
/-- a comprehension's target: it sets slots of its own alone -/
def GcOk (K : PySem.W.Frag) (vs : List Nat) (g : TG) (gd : DGc) : Prop := ∀ (B H : Hp) (σ : L2.St) (δ : Dst) (v : V) (d : D) (k : Dst → Prop) (Q : L2.St → Hp → Prop), Sl K B (wipe σ vs) δ → Ex B H → RdD K B v d → gd d δ k →
  (∀ σ2 δ2, k δ2 → Sl K B σ2 δ2 → wipe σ2 vs = wipe σ vs → Q σ2 H) → g v (wipe σ vs) H Q
def gcN (j : Nat) : DGc := fun d δ k => k (δ.set j (some d))
theorem gc_name {K : PySem.W.Frag} {vs : List Nat} {j : Nat} (hj : j ∈ vs) : GcOk K vs (gName j) (gcN j) := fun B H σ δ v d k Q s e rd h q => by
  refine q _ _ h (s.set rd j) (wipe_same (by rw [List.length_set, wipe_length]) fun i hi => ?_)
  rw [List.getElem?_set_ne (show j ≠ i from fun z => hi (z ▸ hj)), wipe_at, if_neg (fun z => hi z.1)]
def gNames : List Nat → TGs
  | [] => gNil
  | j :: js => gCons (gName j) (gNames js)
def setV (σ : L2.St) : List Nat → List V → L2.St
  | j :: js, v :: vs => setV (σ.set j (some v)) js vs
  | _, _ => σ
def setD (δ : Dst) : List Nat → List D → Dst
  | j :: js, d :: ds => setD (δ.set j (some d)) js ds
  | _, _ => δ
theorem gNames_of {H : Hp} {Q : L2.St → Hp → Prop} : ∀ {js : List Nat} {vs : List V} {σ : L2.St}, vs.length = js.length → Q (setV σ js vs) H → gNames js vs σ H Q
  | [], [], _, _, q => ⟨rfl, q⟩
  | j :: js, v :: vs, σ, hl, q => ⟨v, vs, rfl, gNames_of (js := js) (by simpa using hl) q⟩
  | [], _ :: _, _, hl, _ => by simp at hl
  | _ :: _, [], _, hl, _ => by simp at hl
theorem sl_setV {K : PySem.W.Frag} {B : Hp} : ∀ {js : List Nat} {vs : List V} {ds : List D} {σ : L2.St} {δ : Dst}, Sl K B σ δ → RdL K B vs ds → Sl K B (setV σ js vs) (setD δ js ds)
  | [], _, _, _, _, s, r => by cases r <;> exact s
  | j :: js, _, _, _, _, s, .nil => s
  | j :: js, _, _, _, _, s, .cons h r => sl_setV (js := js) (s.set h j) r
theorem setV_len : ∀ (js : List Nat) (vs : List V) (σ : L2.St), (setV σ js vs).length = σ.length
  | [], vs, σ => by cases vs <;> rfl
  | j :: js, [], σ => rfl
  | j :: js, v :: vs, σ => by
    show (setV (σ.set j (some v)) js vs).length = _
    rw [setV_len js vs, List.length_set]
theorem setV_at : ∀ (js : List Nat) (vs : List V) (σ : L2.St) {i : Nat}, i ∉ js → (setV σ js vs)[i]? = σ[i]?
  | [], vs, σ, i, _ => by cases vs <;> rfl
  | j :: js, [], σ, i, _ => rfl
  | j :: js, v :: vs, σ, i, h => by
    show (setV (σ.set j (some v)) js vs)[i]? = _
    rw [setV_at js vs _ (fun z => h (List.mem_cons_of_mem _ z)), List.getElem?_set_ne (show j ≠ i from fun z => h (z ▸ List.mem_cons_self))]
def gcT (js : List Nat) : DGc := fun d δ k => match d with
  | .tup ds => ds.length = js.length ∧ k (setD δ js ds)
  | _ => False
theorem gc_tup {K : PySem.W.Frag} {vs js : List Nat} (hj : ∀ j ∈ js, j ∈ vs) : GcOk K vs (gTup K js.length (gNames js)) (gcT js) := fun B H σ δ v d k Q s e rd h q => by
  unfold gcT at h
  split at h
  · rename_i ds
    obtain ⟨a, xs, rfl, hs, hl⟩ := rd_tup rd
    refine ⟨a, xs, rfl, ex_t e hs, by rw [hl.length]; exact h.1, gNames_of (by rw [hl.length]; exact h.1) (q _ _ h.2 (sl_setV s hl) (wipe_same (by rw [setV_len, wipe_length]) fun i hi => ?_))⟩
    rw [setV_at js xs _ (fun z => hi (hj i z)), wipe_at, if_neg (fun z => hi z.1)]
  · exact h.elim
def dLc (di : DI) (g : DGc) (t : DT) (de : DE) (vs : List Nat) : DE := fun δ S k => di δ S fun ds S1 => ds.length < 100000 ∧ ∀ p, S1 p = none → ∃ I : Nat → List D → Sto → Prop, I 0 [] S1 ∧
  (∀ n d acc S', ds[n]? = some d → S' p = none → I n acc S' → g d (wipeD δ vs) fun δ2 => t δ2 (put S' p (.lst acc)) fun b S2 => if b = true then de δ2 S2 (fun y S3 => ∃ S4, S4 p = none ∧ S3 = put S4 p (.lst acc) ∧ I (n + 1) (acc ++ [y]) S4) else ∃ S4, S4 p = none ∧ S2 = put S4 p (.lst acc) ∧ I (n + 1) acc S4) ∧
  ∀ acc S', S' p = none → I ds.length acc S' → k (.list acc) S'
def dYes : DT := fun _ S k => k true S
section
variable {X : Cx} {K : PySem.W.Frag} {W : WXD}
theorem ptsOf {es : List Expr} {t u : TT} (h : PTs X es t) (k : ∀ σ H Q, u σ H Q → t σ H Q) : PTs X es u := ⟨fun pins s σ H Q I q => h.run pins s σ H Q I (k σ H Q q)⟩
theorem dts_nil : PTs X [] (lT K dYes) := ptsOf pts_nil fun σ H Q ⟨B, δ, S, k, s, r, h, q⟩ => q true S B H h (Ex.refl B) r
theorem dts_one {c : Expr} {t : DT} (h : PT X c (lT K t)) : PTs X [c] (lT K t) := pts_one h
theorem l_lc {di : DI} {g : TG} {gd : DGc} {t : DT} {de : DE} {vs : List Nat} (hg : GcOk K vs g gd) (σ : L2.St) (H : Hp) (Q : VK) : lE K (dLc di gd t de vs) σ H Q → tLc (lI K di) g (lT K t) (lE K de) vs σ H Q := fun ⟨B, δ, S, k, s, r, h, q⟩ =>
  ⟨B, δ, S, _, s, r, h, fun ds S1 B1 H1 J ⟨hlen, hp⟩ e1 r1 it => fun Dl hD => by
    have fr := (r1.fresh hD).2
    obtain ⟨I, h0, hs, hd⟩ := hp Dl fr
    refine ⟨fun i m H' => m = ds.length - i ∧ i ≤ ds.length ∧ ∃ B2 S2 acc, acc.length ≤ i ∧ S2 Dl = none ∧ Ex B1 B2 ∧ R K B2 (put S2 Dl (.lst acc)) H' ∧ I i acc S2, ⟨ds.length, rfl, Nat.zero_le _, B1, S1, [], Nat.le_refl _, fr, Ex.refl B1, r1.newS hD (.lst .nil), h0⟩, ?_⟩
    rintro i m H' ⟨rfl, hi, B2, S2, acc, hal, n2, e2, r2, hI⟩
    by_cases hlt : i < ds.length
    · refine .inr ⟨it.go i H' (e2.trans r2.ex) hlt, fun H3 => ∃ B3 S3 acc, acc.length ≤ i + 1 ∧ S3 Dl = none ∧ Ex B1 B3 ∧ R K B3 (put S3 Dl (.lst acc)) H3 ∧ I (i + 1) acc S3, fun H3 hn => ⟨ds.length - (i + 1), by omega, rfl, by omega, hn⟩, fun x H3 hy => ?_⟩
      obtain ⟨d, B3, hd', e3, r3, rd⟩ := it.yld i H' x H3 B2 _ e2 r2 hlt hy
      refine hg B3 H3 σ (wipeD δ vs) x d _ _ ((s.mono (e1.trans (e2.trans e3))).wipe vs) r3.ex rd (hs i d acc S2 hd' n2 hI) fun σ2 δ2 hk s2 hw => ⟨hw, ?_⟩
      refine ⟨B3, δ2, _, _, s2, r3, hk, fun b S4 B4 H4 h4 e4 r4 => ?_⟩
      have e14 : Ex B1 B4 := e2.trans (e3.trans e4)
      cases b with
      | false =>
        obtain ⟨S5, n5, rfl, hI5⟩ := h4
        exact ⟨B4, S5, acc, by omega, n5, e14, r4, hI5⟩
      | true =>
        refine ⟨B4, δ2, S4, _, s2.mono e4, r4, h4, fun y S5 v B5 H5 ⟨S6, n6, h6, hI6⟩ e5 r5 d5 => ?_⟩
        subst h6
        obtain ⟨xs, hx, rl⟩ := r5.lst put_same
        have r6 := r5.mut put_same (.lst (rl.append (.one d5)))
        rw [put_put] at r6
        exact ⟨xs, hx, sz_lt (by rw [rl.length]; omega), B5, S6, acc ++ [y], by simp; omega, n6, e14.trans e5, r6, hI6⟩
    · have ei : i = ds.length := by omega
      subst ei
      obtain ⟨B', e', r', rd⟩ := r2.freeze put_same
      rw [del_put n2] at r'
      exact .inl ⟨it.stop _ H' (e2.trans r2.ex) (Nat.le_refl _), q _ _ _ B' H' (hd acc S2 n2 hI) (e1.trans (e2.trans e')) r' rd⟩⟩
theorem de_lc {elt tg iter : Expr} {ifs : List Expr} {scope : Scope} {own : List (Str × Nat)} {pos : Pos} {di : DI} {g : TG} {gd : DGc} {t : DT} {de : DE} (hgc : GcOk K (own.map (·.2)) g gd) (hc : X.calm = true) (hN : X.N.Nodup) (hi : PI X tg iter (lI K di)) (ok : BlkOk X.N X.env.scope scope own)
    (hg : ∀ (s : Shared) (H : Hp) (C : Addr) (cl : List (Str × Addr)) (fp : List Addr), PG (X.blk s H scope (compEnvC scope cl C X.env) fp) tg g) (ht : ∀ (s : Shared) (H : Hp) (C : Addr) (cl : List (Str × Addr)) (fp : List Addr), PTs (X.blk s H scope (compEnvC scope cl C X.env) fp) ifs (lT K t))
    (he : ∀ (s : Shared) (H : Hp) (C : Addr) (cl : List (Str × Addr)) (fp : List Addr), PE (X.blk s H scope (compEnvC scope cl C X.env) fp) elt (lE K de)) (hs : ∀ x, foldedSetIterable iter X.env x = pure x := by intro _; rfl) :
    PE X (.ListComp elt [⟨tg, iter, ifs, 0⟩] scope pos) (lE K (dLc di gd t de (own.map (·.2)))) := peOf (pe_lc hc hN hi ok hg ht he hs) (l_lc hgc)
theorem ds_setLc {i : Nat} {y : Str} {py : Pos} {elt tg iter : Expr} {ifs : List Expr} {scope : Scope} {own : List (Str × Nat)} {pos spos : Pos} {di : DI} {g : TG} {gd : DGc} {t : DT} {de : DE} (hgc : GcOk K (own.map (·.2)) g gd) (hc : X.calm = true) (hN : X.N.Nodup) (hy : X.N[i]? = some y) (hyl : X.env.scope.names.lookup y = some .local)
    (hsw : swapsWith (.ListComp elt [⟨tg, iter, ifs, 0⟩] scope pos) (some (.Name y py)) spos.line X.env = pure true) (hi : PI X tg iter (lI K di)) (ok : BlkOk X.N X.env.scope scope own)
    (hg : ∀ (s : Shared) (H : Hp) (C : Addr) (cl : List (Str × Addr)) (fp : List Addr), PG (X.blk s H scope (compEnvC scope cl C X.env) fp) tg g) (ht : ∀ (s : Shared) (H : Hp) (C : Addr) (cl : List (Str × Addr)) (fp : List Addr), PTs (X.blk s H scope (compEnvC scope cl C X.env) fp) ifs (lT K t))
    (he : ∀ (s : Shared) (H : Hp) (C : Addr) (cl : List (Str × Addr)) (fp : List Addr), PE (X.blk s H scope (compEnvC scope cl C X.env) fp) elt (lE K de)) (hs : ∀ x, foldedSetIterable iter X.env x = pure x := by intro _; rfl) :
    PS X (.Assign [.Name y py] (.ListComp elt [⟨tg, iter, ifs, 0⟩] scope pos) spos) (lS K W (dSet (dLc di gd t de (own.map (·.2))) i)) := psOf (ps_setLc hc hN hy hyl hsw hi ok hg ht he hs) fun E σ H ⟨B, δ, S, D, s, r, h, l⟩ =>
  l_lc hgc σ H _ ⟨B, δ, S, _, s, r, h, fun x S1 v B1 H1 h1 e1 r1 d1 => l.nx _ S1 _ B1 H1 h1 e1 ((s.mono e1).set d1 i) r1⟩
end
/-- a comprehension that leaves the store: the list so far by what holds of it -/
def LcO (S : Sto) (p : Addr) (acc : List D) (Q : Prop) (S3 : Sto) : Prop := ∃ S4, S4 p = none ∧ S3 = put S4 p (.lst acc) ∧ S4 = S ∧ Q
theorem LcO.of {S : Sto} {p : Addr} {acc : List D} {Q : Prop} (hp : S p = none) (h : Q) : LcO S p acc Q (put S p (.lst acc)) := ⟨S, hp, rfl, rfl, h⟩
theorem lc_go {g : DGc} {t : DT} {de : DE} {vs : List Nat} {δ : Dst} {S : Sto} {k : DK} {ds : List D} (P : Nat → List D → Prop) (hl : ds.length < 100000) (h0 : P 0 [])
    (hs : ∀ p, S p = none → ∀ n d acc, ds[n]? = some d → P n acc → g d (wipeD δ vs) fun δ2 => t δ2 (put S p (.lst acc)) fun b S2 => if b = true then de δ2 S2 (fun y S3 => LcO S p acc (P (n + 1) (acc ++ [y])) S3) else LcO S p acc (P (n + 1) acc) S2) (hd : ∀ acc, P ds.length acc → k (.list acc) S) :
    ds.length < 100000 ∧ ∀ p, S p = none → ∃ I : Nat → List D → Sto → Prop, I 0 [] S ∧
  (∀ n d acc S', ds[n]? = some d → S' p = none → I n acc S' → g d (wipeD δ vs) fun δ2 => t δ2 (put S' p (.lst acc)) fun b S2 => if b = true then de δ2 S2 (fun y S3 => ∃ S4, S4 p = none ∧ S3 = put S4 p (.lst acc) ∧ I (n + 1) (acc ++ [y]) S4) else ∃ S4, S4 p = none ∧ S2 = put S4 p (.lst acc) ∧ I (n + 1) acc S4) ∧
  ∀ acc S', S' p = none → I ds.length acc S' → k (.list acc) S' := by
  refine ⟨hl, fun p hp => ⟨fun n acc S' => S' = S ∧ P n acc, ⟨rfl, h0⟩, ?_, ?_⟩⟩
  · rintro n d acc S' hd' _ ⟨rfl, hP⟩
    exact hs p hp n d acc hd' hP
  · rintro acc S' _ ⟨rfl, hP⟩
    exact hd acc hP
end DL

set_option Elab.async false
set_option linter.all false
set_option maxRecDepth 100000
namespace DL
open PySem L2 Evl EX
/-! ### operators -/
def oI (f : Int → Int → D) : DR2 := fun x y S k => match x, y with
  | .int i, .int j => k (f i j) S
  | _, _ => False
def oIc (C : Int → Int → Prop) (f : Int → Int → D) : DR2 := fun x y S k => match x, y with
  | .int i, .int j => C i j ∧ k (f i j) S
  | _, _ => False
def oS (f : Str → Str → D) : DR2 := fun x y S k => match x, y with
  | .str i, .str j => k (f i j) S
  | _, _ => False
section
variable {K : PySem.W.Frag}
theorem si_I {g : Int → Int → V} {f : Int → Int → D} (h : ∀ i j B, RdD K B (g i j) (f i j)) : Sim2 K (rI0 g) (oI f) := fun B S H v w x y k Q r rx ry h1 q => by
  unfold oI at h1
  split at h1
  · rename_i i j
    exact ⟨i, j, rd_int rx, rd_int ry, q _ S _ B H h1 (Ex.refl B) r (h i j B)⟩
  · exact h1.elim
theorem si_Ic {C : Int → Int → Prop} {g : Int → Int → V} {f : Int → Int → D} (h : ∀ i j B, RdD K B (g i j) (f i j)) : Sim2 K (rI C g) (oIc C f) := fun B S H v w x y k Q r rx ry h1 q => by
  unfold oIc at h1
  split at h1
  · rename_i i j
    exact ⟨i, j, rd_int rx, rd_int ry, h1.1, q _ S _ B H h1.2 (Ex.refl B) r (h i j B)⟩
  · exact h1.elim
theorem si_add : Sim2 K (rI0 fun i j => .int (i + j)) (oI fun i j => .int (i + j)) := si_I fun _ _ _ => .int _
theorem si_sub : Sim2 K (rI0 fun i j => .int (i - j)) (oI fun i j => .int (i - j)) := si_I fun _ _ _ => .int _
theorem si_mul : Sim2 K (rI CMul fun i j => .int (i * j)) (oIc CMul fun i j => .int (i * j)) := si_Ic fun _ _ _ => .int _
theorem si_fdiv : Sim2 K (rI CDiv fun i j => .int (i / j)) (oIc CDiv fun i j => .int (i / j)) := si_Ic fun _ _ _ => .int _
theorem si_mod : Sim2 K (rI (fun _ j => 0 < j) fun i j => .int (i % j)) (oIc (fun _ j => 0 < j) fun i j => .int (i % j)) := si_Ic fun _ _ _ => .int _
theorem si_pow : Sim2 K (rI CPow fun i j => .int (i ^ j.toNat)) (oIc CPow fun i j => .int (i ^ j.toNat)) := si_Ic fun _ _ _ => .int _
theorem si_lt : Sim2 K (rI0 fun i j => .bl (decide (i < j))) (oI fun i j => .bl (decide (i < j))) := si_I fun _ _ _ => .bl _
theorem si_gt : Sim2 K (rI0 fun i j => .bl (decide (j < i))) (oI fun i j => .bl (decide (j < i))) := si_I fun _ _ _ => .bl _
def oAddS : DR2 := fun x y S k => match x, y with
  | .str i, .str j => i.length + j.length ≤ 100000 ∧ k (.str (i ++ j)) S
  | _, _ => False
def oMulS : DR2 := fun x y S k => match x, y with
  | .str i, .int n => i.length ≤ 16 ∧ -(2 ^ 63 : Int) ≤ n ∧ n ≤ 1048576 ∧ k (.str (Txt.mul i n)) S
  | _, _ => False
/-- one sign in a text -/
def oSg (neg : Bool) : DR2 := fun x y S k => match y with
  | .str z => ∃ c : Nat, x = .str ⟨#[c]⟩ ∧ k (.bl (if neg then !decide (c ∈ z.cps.toList) else decide (c ∈ z.cps.toList))) S
  | _ => False
/-- is None -/
def isNon : D → Bool
  | .non => true
  | _ => false
def oIsN (neg : Bool) : DR2 := fun x y S k => match y with
  | .non => k (.bl (if neg then !isNon x else isNon x)) S
  | _ => False
theorem isNon_iff {B : Hp} {v : V} {x : D} (h : RdD K B v x) : decide (v = .non) = isNon x := by
  cases h <;> simp [isNon]
theorem si_isN : Sim2 K (fun x y H Q => y = .non ∧ Q (.bl (decide (x = .non))) H) (oIsN false) := fun B S H v w x y k Q r rx ry h1 q => by
  unfold oIsN at h1
  split at h1
  · exact ⟨rd_non ry, by rw [isNon_iff rx]; exact q _ S _ B H h1 (Ex.refl B) r (.bl _)⟩
  · exact h1.elim
theorem si_notN : Sim2 K (fun x y H Q => y = .non ∧ Q (.bl (!decide (x = .non))) H) (oIsN true) := fun B S H v w x y k Q r rx ry h1 q => by
  unfold oIsN at h1
  split at h1
  · exact ⟨rd_non ry, by rw [isNon_iff rx]; exact q _ S _ B H h1 (Ex.refl B) r (.bl _)⟩
  · exact h1.elim
/-- == of scalars -/
def sEq : D → D → Option Bool
  | .int i, .int j => some (decide (i = j))
  | .str a, .str b => some (decide (a = b))
  | .bl a, .bl b => some (decide (a = b))
  | .non, .non => some true
  | .non, .int _ => some false
  | .non, .str _ => some false
  | .non, .bl _ => some false
  | .int _, .non => some false
  | .str _, .non => some false
  | .bl _, .non => some false
  | .int _, .str _ => some false
  | .str _, .int _ => some false
  | .bl _, .str _ => some false
  | .str _, .bl _ => some false
  | _, _ => none
theorem sEq_ok {B : Hp} {v w : V} {x y : D} {b : Bool} (h : sEq x y = some b) (rx : RdD K B v x) (ry : RdD K B w y) : scal v w = true ∧ decide (v = w) = b := by
  cases rx <;> cases ry <;> first | (simp [sEq] at h; done) | (simp only [sEq, Option.some.injEq] at h; subst h; exact ⟨rfl, by simp⟩)
def oEq (neg : Bool) : DR2 := fun x y S k => match sEq x y with
  | some b => k (.bl (if neg then !b else b)) S
  | none => False
theorem si_eq : Sim2 K rEq (oEq false) := fun B S H v w x y k Q r rx ry h1 q => by
  unfold oEq at h1
  split at h1
  · rename_i b e
    obtain ⟨h2, h3⟩ := sEq_ok e rx ry
    exact ⟨h2, by rw [h3]; exact q _ S _ B H h1 (Ex.refl B) r (.bl _)⟩
  · exact h1.elim
theorem si_ne : Sim2 K rNe (oEq true) := fun B S H v w x y k Q r rx ry h1 q => by
  unfold oEq at h1
  split at h1
  · rename_i b e
    obtain ⟨h2, h3⟩ := sEq_ok e rx ry
    exact ⟨h2, by rw [h3]; exact q _ S _ B H h1 (Ex.refl B) r (.bl _)⟩
  · exact h1.elim
/-! what a sequence is -/
def SeqD (S : Sto) (x : D) (ds : List D) : Prop := match x with
  | .list es => es = ds
  | .scr es => es = ds
  | .tup es => es = ds
  | .ref a => S a = some (.lst ds)
  | _ => False
theorem seqD_ok {B H : Hp} {S : Sto} {v : V} {x : D} {ds : List D} (h : SeqD S x ds) (r : R K B S H) (rx : RdD K B v x) : ∃ p xs, v = .ref p ∧ (SqL K H p xs ∨ SqT K H p xs) ∧ RdL K B xs ds := by
  unfold SeqD at h
  split at h
  · subst h
    obtain ⟨a, xs, rfl, ha, rl⟩ := rd_list rx
    exact ⟨a, xs, rfl, .inl (sq_of (r.ex _ _ ha)), rl⟩
  · subst h
    obtain ⟨a, xs, rfl, ha, rl⟩ := rd_scr rx
    exact ⟨a, xs, rfl, .inl (ex_l r.ex ha), rl⟩
  · subst h
    obtain ⟨a, xs, rfl, ha, rl⟩ := rd_tup rx
    exact ⟨a, xs, rfl, .inr (ex_t r.ex ha), rl⟩
  · obtain ⟨xs, ha, rl⟩ := r.lst h
    exact ⟨_, xs, rd_ref rx, .inl (sq_of ha), rl⟩
  · exact h.elim
theorem rdl_atI {B : Hp} {xs : List V} {ds : List D} {i : Int} {d : D} (h : RdL K B xs ds) (e : atI ds i = some d) : ∃ v, atI xs i = some v ∧ RdD K B v d := by
  unfold atI at e ⊢
  rw [h.length]
  obtain ⟨j, hj, e⟩ := Option.bind_eq_some_iff.mp e
  obtain ⟨v, hv, rd⟩ := h.get e
  exact ⟨v, by rw [hj]; exact hv, rd⟩
/-- x[i] -/
def oIx : DR2 := fun x y S k => match y with
  | .int i => match x with
    | .str z => ∃ c, z.length ≤ 100000 ∧ atI z.cps.toList i = some c ∧ k (.str ⟨#[c]⟩) S
    | x => ∃ ds d, SeqD S x ds ∧ atI ds i = some d ∧ k d S
  | _ => False
theorem si_ix {X : Cx} (hk : X.K = K) : Sim2 K (L2.rIx X.K) oIx := fun B S H v w x y k Q r rx ry h1 q => by
  subst hk
  unfold oIx at h1
  split at h1
  · rename_i i
    rw [rd_int ry]
    split at h1
    · rename_i z
      obtain ⟨c, hz, hc, h1⟩ := h1
      rw [rd_str rx]
      exact .inr (.inr ⟨z, i, c, rfl, rfl, sz_of hz, hc, q _ S _ B H h1 (Ex.refl B) r (.str _)⟩)
    · obtain ⟨ds, d, hs, hd, h1⟩ := h1
      obtain ⟨p, xs, rfl, hp, rl⟩ := seqD_ok hs r rx
      obtain ⟨v, hv, rd⟩ := rdl_atI rl hd
      rcases hp with hp | hp
      · exact .inl ⟨p, xs, i, v, rfl, rfl, hp, hv, q _ S _ B H h1 (Ex.refl B) r rd⟩
      · exact .inr (.inl ⟨p, xs, i, v, rfl, rfl, hp, hv, q _ S _ B H h1 (Ex.refl B) r rd⟩)
  · exact h1.elim
/-- flat things -/
def toV : D → V
  | .non => .non
  | .bl b => .bl b
  | .int i => .int i
  | .str x => .str x
  | _ => .ty ""
def flatD : D → Bool
  | .non => true
  | .bl _ => true
  | .int _ => true
  | .str _ => true
  | _ => false
theorem toV_ok {B : Hp} {v : V} {x : D} (h : RdD K B v x) (f : flatD x = true) : v = toV x ∧ flatV v = true := by
  cases h <;> first | exact ⟨rfl, rfl⟩ | cases f
theorem toV_all {B : Hp} : ∀ {vs : List V} {ds : List D}, RdL K B vs ds → ds.all flatD = true → vs = ds.map toV ∧ vs.all flatV = true
  | _, _, .nil, _ => ⟨rfl, rfl⟩
  | _, _, .cons h r, f => by
    rw [List.all_cons, Bool.and_eq_true] at f
    obtain ⟨h1, h2⟩ := toV_ok h f.1
    obtain ⟨h3, h4⟩ := toV_all r f.2
    exact ⟨by rw [h1, h3]; rfl, by rw [List.all_cons, h2, h4]; rfl⟩
def inD (x : D) (ds : List D) : Bool := inV (toV x) (ds.map toV)
def oIn (neg : Bool) : DR2 := fun x y S k => ∃ ds, SeqD S y ds ∧ flatD x = true ∧ ds.all flatD = true ∧ k (.bl (if neg then !inD x ds else inD x ds)) S
theorem si_in (neg : Bool) : Sim2 K (rIn K neg) (oIn neg) := fun B S H v w x y k Q r rx ry h1 q => by
  obtain ⟨ds, hs, f1, f2, h1⟩ := h1
  obtain ⟨p, xs, rfl, hp, rl⟩ := seqD_ok hs r ry
  obtain ⟨h2, h3⟩ := toV_ok rx f1
  obtain ⟨h4, h5⟩ := toV_all rl f2
  refine ⟨p, xs, rfl, hp, h3, h5, ?_⟩
  rw [h2, h4]
  exact q _ S _ B H h1 (Ex.refl B) r (.bl _)
/-- list + list, tuple + tuple -/
def oCat : DR2 := fun x y S k => match x, y with
  | .list a, .list b => a.length + b.length ≤ 100000 ∧ k (.list (a ++ b)) S
  | _, _ => False
theorem si_cat : Sim2 K rCat oCat := fun B S H v w x y k Q r rx ry h1 q => by
  unfold oCat at h1
  split at h1
  · obtain ⟨p, xs, rfl, hp, rl⟩ := rd_list rx
    obtain ⟨p2, ys, rfl, hp2, rl2⟩ := rd_list ry
    refine ⟨p, p2, xs, ys, rfl, rfl, r.ex _ _ hp, r.ex _ _ hp2, sz_of (by rw [rl.length, rl2.length]; exact h1.1), fun z hz => ?_⟩
    have n := r.new (o := .lst (xs ++ ys)) hz
    exact q _ S _ _ _ h1.2 n.2 n.1 (.lst upd_same ((rl.append rl2).mono n.2))
  · exact h1.elim
def oCatT : DR2 := fun x y S k => match x, y with
  | .tup a, .tup b => a ≠ [] ∧ a.length + b.length ≤ 100000 ∧ k (.tup (a ++ b)) S
  | _, _ => False
/-! slices -/
def cutD (xs : List D) (lo hi : Option Int) : List D := (xs.drop (HT.sIx xs.length 0 lo)).take (HT.sIx xs.length xs.length hi - HT.sIx xs.length 0 lo)
theorem rdl_cut {B : Hp} {xs : List V} {ds : List D} (h : RdL K B xs ds) (lo hi : Option Int) : RdL K B (cutV xs lo hi) (cutD ds lo hi) := by
  unfold cutV cutD
  rw [h.length]
  exact (h.drop _).take _
end
abbrev DO := Dst → Sto → (Option Int → Sto → Prop) → Prop
def lO (K : PySem.W.Frag) (d : DO) : TO := fun σ H Q => ∃ B δ S k, Sl K B σ δ ∧ R K B S H ∧ d δ S k ∧ ∀ o S' B' H', k o S' → Ex B B' → R K B' S' H' → Q o H'
def dNoP : DO := fun _ S k => k none S
def dPart (de : DE) : DO := fun δ S k => de δ S fun x S1 => match x with
  | .int i => k (some i) S1
  | _ => False
section
variable {X : Cx} {K : PySem.W.Frag} {e : Expr} {de : DE} {lo hi : Option Expr} {dl dh : DO}
theorem poOf {t u : TO} {lo : Option Expr} (h : PO X lo t) (k : ∀ σ H Q, u σ H Q → t σ H Q) : PO X lo u := by
  obtain ⟨r⟩ := h
  exact ⟨fun pins s σ H Q I q => r pins s σ H Q I (k σ H Q q)⟩
theorem do_none : PO X none (lO K dNoP) := poOf po_none fun σ H Q ⟨B, δ, S, k, s, r, h, q⟩ => q none S B H h (Ex.refl B) r
theorem do_some (h : PE X e (lE K de)) : PO X (some e) (lO K (dPart de)) := poOf (po_some h) fun σ H Q ⟨B, δ, S, k, s, r, h, q⟩ => ⟨B, δ, S, _, s, r, h, fun x S1 v B1 H1 h1 e1 r1 d1 => by
  split at h1
  · exact ⟨_, rd_int d1, q _ S1 B1 H1 h1 e1 r1⟩
  · exact h1.elim⟩
def dSl (rd : D → Option Int → Option Int → Sto → DK → Prop) (de : DE) (dl dh : DO) : DE := fun δ S k => de δ S fun x S1 => dl δ S1 fun l S2 => dh δ S2 fun u S3 => rd x l u S3 k
def SimS (K : PySem.W.Frag) (r : V → Option Int → Option Int → Hp → VK → Prop) (rd : D → Option Int → Option Int → Sto → DK → Prop) : Prop := ∀ (B : Hp) (S : Sto) (H : Hp) (v : V) (x : D) (l u : Option Int) (k : DK) (Q : VK), R K B S H → RdD K B v x → rd x l u S k →
  (∀ z S' u B' H', k z S' → Ex B B' → R K B' S' H' → RdD K B' u z → Q u H') → r v l u H Q
theorem de_slice {r : V → Option Int → Option Int → Hp → VK → Prop} {rd : D → Option Int → Option Int → Sto → DK → Prop} {p2 pos : Pos} (hr : SlR X r) (hs : SimS K r rd) (he : PE X e (lE K de)) (hl : PO X lo (lO K dl)) (hu : PO X hi (lO K dh)) : PE X (.Subscript e (.Slice lo hi none p2) pos) (lE K (dSl rd de dl dh)) :=
  peOf (pe_slice hr he hl hu) fun σ H Q ⟨B, δ, S, k, s, r, h, q⟩ => ⟨B, δ, S, _, s, r, h, fun x S1 v B1 H1 h1 e1 r1 d1 => ⟨B1, δ, S1, _, s.mono e1, r1, h1, fun l S2 B2 H2 h2 e2 r2 => ⟨B2, δ, S2, _, s.mono (e1.trans e2), r2, h2, fun u S3 B3 H3 h3 e3 r3 =>
    hs B3 S3 H3 v x l u k Q r3 (d1.mono (e2.trans e3)) h3 fun z S' w B' H' hk e' r' d' => q z S' w B' H' hk (e1.trans (e2.trans (e3.trans e'))) r' d'⟩⟩⟩
def oSlL : D → Option Int → Option Int → Sto → DK → Prop := fun x l u S k => match x with
  | .list ds => k (.list (cutD ds l u)) S
  | .scr ds => k (.list (cutD ds l u)) S
  | .ref a => ∃ ds, S a = some (.lst ds) ∧ k (.list (cutD ds l u)) S
  | _ => False
theorem si_slL : SimS K (rSlL K) oSlL := fun B S H v x l u k Q r rx h1 q => by
  have main : ∀ ds, SeqD S x ds → (∃ p xs, v = .ref p ∧ SqL K H p xs ∧ RdL K B xs ds) → k (.list (cutD ds l u)) S → rSlL K v l u H Q := fun ds hs ⟨p, xs, hv, hp, rl⟩ h1 =>
    ⟨p, xs, hv, hp, fun z hz => by
      have n := r.new (o := .lst (cutV xs l u)) hz
      exact q _ S _ _ _ h1 n.2 n.1 (.lst upd_same ((rdl_cut rl l u).mono n.2))⟩
  unfold oSlL at h1
  split at h1
  · obtain ⟨a, xs, rfl, ha, rl⟩ := rd_list rx
    exact main _ rfl ⟨a, xs, rfl, sq_of (r.ex _ _ ha), rl⟩ h1
  · obtain ⟨a, xs, rfl, ha, rl⟩ := rd_scr rx
    exact main _ rfl ⟨a, xs, rfl, ex_l r.ex ha, rl⟩ h1
  · obtain ⟨ds, hs, h1⟩ := h1
    obtain ⟨xs, ha, rl⟩ := r.lst hs
    exact main ds hs ⟨_, xs, rd_ref rx, sq_of ha, rl⟩ h1
  · exact h1.elim
def oSlS : D → Option Int → Option Int → Sto → DK → Prop := fun x l u S k => match x with
  | .str z => z.length ≤ 100000 ∧ k (.str (cutS z l u)) S
  | _ => False
end
end DL

set_option Elab.async false
set_option linter.all false
set_option maxRecDepth 100000
namespace DL
open PySem L2 Evl EX
/-! ### calls of built-ins -/
section
variable {K : PySem.W.Frag}
theorem rdl1 {B : Hp} {vs : List V} {x : D} (h : RdL K B vs [x]) : ∃ v, vs = [v] ∧ RdD K B v x := by
  cases h with
  | cons h r => cases r; exact ⟨_, rfl, h⟩
theorem rdl2 {B : Hp} {vs : List V} {x y : D} (h : RdL K B vs [x, y]) : ∃ v w, vs = [v, w] ∧ RdD K B v x ∧ RdD K B w y := by
  cases h with
  | cons h r =>
    obtain ⟨w, rfl, hw⟩ := rdl1 r
    exact ⟨_, w, rfl, h, hw⟩
/-- len -/
def oLen : List D → Sto → DK → Prop := fun xs S k => match xs with
  | [.str z] => z.length ≤ 100000 ∧ k (.int z.length) S
  | [x] => ∃ ds, SeqD S x ds ∧ k (.int ds.length) S
  | _ => False
theorem si_len {X : Cx} (hk : X.K = K) : SimC K (fun xs H Q => ∃ x n, xs = [x] ∧ LenV X.K x H n ∧ Q (.int n) H) oLen := fun B S H vs xs k Q r rx h1 q => by
  subst hk
  unfold oLen at h1
  split at h1
  · rename_i z
    obtain ⟨v, rfl, rv⟩ := rdl1 rx
    cases rd_str rv
    exact ⟨_, z.length, rfl, ⟨sz_of h1.1, rfl⟩, q _ S _ B H h1.2 (Ex.refl B) r (.int _)⟩
  · rename_i x hx
    obtain ⟨v, rfl, rv⟩ := rdl1 rx
    obtain ⟨ds, hs, h1⟩ := h1
    obtain ⟨p, xs, rfl, hp, rl⟩ := seqD_ok hs r rv
    refine ⟨_, xs.length, rfl, ?_, by rw [rl.length]; exact q _ S _ B H h1 (Ex.refl B) r (.int _)⟩
    rcases hp with hp | hp
    · exact .inl ⟨xs, hp, rfl⟩
    · exact .inr ⟨xs, hp, rfl⟩
  · exact h1.elim
def oLenD : List D → Sto → DK → Prop := fun xs S k => match xs with
  | [.ref a] => ∃ kvs, S a = some (.dct kvs) ∧ k (.int kvs.length) S
  | _ => False
theorem rdkv_len {κ : Type} {B : Hp} : ∀ {l : List (κ × V)} {m : List (κ × D)}, RdKV K B l m → l.length = m.length := fun h => Paired.length h
def oI1 (f : Int → D) : List D → Sto → DK → Prop := fun xs S k => match xs with
  | [.int i] => k (f i) S
  | _ => False
def oI2 (f : Int → Int → D) : List D → Sto → DK → Prop := fun xs S k => match xs with
  | [.int i, .int j] => k (f i j) S
  | _ => False
theorem si_abs : SimC K (fun xs H Q => ∃ i, xs = [.int i] ∧ Q (.int (if i < 0 then -i else i)) H) (oI1 fun i => .int (if i < 0 then -i else i)) := fun B S H vs xs k Q r rx h1 q => by
  unfold oI1 at h1
  split at h1
  · obtain ⟨v, rfl, rv⟩ := rdl1 rx
    cases rd_int rv
    exact ⟨_, rfl, q _ S _ B H h1 (Ex.refl B) r (.int _)⟩
  · exact h1.elim
def oInt1 : List D → Sto → DK → Prop := fun xs S k => match xs with
  | [.int i] => k (.int i) S
  | [.bl b] => k (.int (if b then 1 else 0)) S
  | _ => False
def oIntS : List D → Sto → DK → Prop := fun xs S k => match xs with
  | [.str a] => ∃ n, PySem.intText? a = some n ∧ a.length ≤ 640 ∧ k (.int n) S
  | _ => False
def oStr : List D → Sto → DK → Prop := fun xs S k => match xs with
  | [.int i] => i.natAbs.log2 < 1920 ∧ k (.str (toString i)) S
  | [.str a] => k (.str a) S
  | _ => False
/-- list(xs): a new list, told once for all; list(xs) that will change -/
def oList : List D → Sto → DK → Prop := fun xs S k => match xs with
  | [x] => ∃ ds, SeqD S x ds ∧ k (.list ds) S
  | _ => False
theorem si_list : SimC K (rListS K) oList := fun B S H vs xs k Q r rx h1 q => by
  unfold oList at h1
  split at h1
  · obtain ⟨v, rfl, rv⟩ := rdl1 rx
    obtain ⟨ds, hs, h1⟩ := h1
    obtain ⟨p, ys, rfl, hp, rl⟩ := seqD_ok hs r rv
    refine ⟨p, ys, rfl, hp, fun l hl => ?_⟩
    have n := r.new (o := .lst ys) hl
    exact q _ S _ _ _ h1 n.2 n.1 (.lst upd_same (rl.mono n.2))
  · exact h1.elim
def oListN : List D → Sto → DK → Prop := fun xs S k => match xs with
  | [x] => ∃ ds, SeqD S x ds ∧ ∀ p, S p = none → k (.ref p) (put S p (.lst ds))
  | _ => False
theorem si_listN : SimC K (rListS K) oListN := fun B S H vs xs k Q r rx h1 q => by
  unfold oListN at h1
  split at h1
  · obtain ⟨v, rfl, rv⟩ := rdl1 rx
    obtain ⟨ds, hs, h1⟩ := h1
    obtain ⟨p, ys, rfl, hp, rl⟩ := seqD_ok hs r rv
    exact ⟨p, ys, rfl, hp, fun l hl => q _ _ _ B _ (h1 l (r.fresh hl).2) (Ex.refl B) (r.newS hl (.lst rl)) (.ref l)⟩
  · exact h1.elim
def oTuple : List D → Sto → DK → Prop := fun xs S k => match xs with
  | [x] => ∃ ds, SeqD S x ds ∧ k (.tup ds) S
  | _ => False
/-! any, all, sum over lists -/
theorem rdl_of_map {α : Type} {B : Hp} {f : α → D} {g : α → V} (h : ∀ v a, RdD K B v (f a) → v = g a) : ∀ {vs : List V} (as : List α), RdL K B vs (as.map f) → vs = as.map g
  | _, [], .nil => rfl
  | _, a :: as, .cons hd r => by rw [h _ a hd, rdl_of_map h as r]; rfl
def oAny : List D → Sto → DK → Prop := fun xs S k => match xs with
  | [.list ds] => ∃ bs : List Bool, ds = bs.map D.bl ∧ k (.bl (bs.any id)) S
  | _ => False
def oAll : List D → Sto → DK → Prop := fun xs S k => match xs with
  | [.list ds] => ∃ bs : List Bool, ds = bs.map D.bl ∧ k (.bl (bs.all id)) S
  | _ => False
theorem si_all : SimC K (rAll K) oAll := fun B S H vs xs k Q r rx h1 q => by
  unfold oAll at h1
  split at h1
  · obtain ⟨v, rfl, rv⟩ := rdl1 rx
    obtain ⟨bs, rfl, h1⟩ := h1
    obtain ⟨a, xs, rfl, ha, rl⟩ := rd_list rv
    have e := rdl_of_map (g := V.bl) (fun v b h => rd_bl h) bs rl
    subst e
    exact ⟨a, bs, rfl, sq_of (r.ex _ _ ha), q _ S _ B H h1 (Ex.refl B) r (.bl _)⟩
  · exact h1.elim
def oSum : List D → Sto → DK → Prop := fun xs S k => match xs with
  | [.list ds] => ∃ ns : List Int, ds = ns.map D.int ∧ k (.int ns.sum) S
  | _ => False
/-! sorted -/
def oSortI : List D → Sto → DK → Prop := fun xs S k => match xs with
  | [x] => ∃ ns : List Int, SeqD S x (ns.map D.int) ∧ (∀ ds, x ≠ .tup ds) ∧ ∀ ms : List Int, ms.Perm ns → ms.Pairwise (· ≤ ·) → k (.list (ms.map D.int)) S
  | _ => False
theorem seqL_ok {B H : Hp} {S : Sto} {v : V} {x : D} {ds : List D} (h : SeqD S x ds) (ht : ∀ ds, x ≠ .tup ds) (r : R K B S H) (rx : RdD K B v x) : ∃ p xs, v = .ref p ∧ SqL K H p xs ∧ RdL K B xs ds := by
  unfold SeqD at h
  split at h
  · subst h
    obtain ⟨a, xs, rfl, ha, rl⟩ := rd_list rx
    exact ⟨a, xs, rfl, sq_of (r.ex _ _ ha), rl⟩
  · subst h
    obtain ⟨a, xs, rfl, ha, rl⟩ := rd_scr rx
    exact ⟨a, xs, rfl, ex_l r.ex ha, rl⟩
  · exact absurd rfl (ht _)
  · obtain ⟨xs, ha, rl⟩ := r.lst h
    exact ⟨_, xs, rd_ref rx, sq_of ha, rl⟩
  · exact h.elim
def oSortS : List D → Sto → DK → Prop := fun xs S k => match xs with
  | [x] => ∃ ns : List Str, SeqD S x (ns.map D.str) ∧ ns.length < 64 ∧ (∀ ds, x ≠ .tup ds) ∧ ∀ ms : List Str, ms.Perm ns → PyProof.Rows.sortedS ms = true → k (.list (ms.map D.str)) S
  | _ => False
/-! isinstance -/
def tyD (S : Sto) : D → Option String
  | .non => some "NoneType"
  | .bl _ => some "bool"
  | .int _ => some "int"
  | .str _ => some "str"
  | .list _ => some "list"
  | .scr _ => some "list"
  | .tup _ => some "tuple"
  | .ref a => match S a with
    | some (.lst _) => some "list"
    | some (.dct _) => some "dict"
    | _ => none
  | .ty _ => none
def isB (t c : String) : Bool := t == c || (t == "bool" && c == "int")
def Ts : List String := ["NoneType", "bool", "int", "str", "list", "tuple", "dict"]
def Cs : List String := ["bool", "int", "str", "list", "tuple", "dict"]
theorem isB_ok : ∀ t ∈ Ts, ∀ c ∈ Cs, kitB t c = some (isB t c) := by decide +kernel
theorem tyD_mem {S : Sto} {x : D} {t : String} (h : tyD S x = some t) : t ∈ Ts := by
  unfold tyD at h
  split at h <;> first | (cases h; decide) | (split at h <;> first | (cases h; decide) | cases h) | cases h
theorem tyD_ok {B H : Hp} {S : Sto} {v : V} {x : D} {t : String} (h : tyD S x = some t) (r : R K B S H) (rx : RdD K B v x) : TyX K H v (.type t) := by
  cases rx with
  | non => cases h; exact .base .non
  | bl b => cases h; exact .base (.bl b)
  | int i => cases h; exact .base (.int i)
  | str z => cases h; exact .base (.str z)
  | ty n => cases h
  | lst ha rl => cases h; exact .base (.lst (r.ex _ _ ha))
  | tup ha rl =>
    cases h
    rcases ex_t r.ex ha with (ha | ⟨o, ha⟩) | ⟨o, its, n, h1, h2, _⟩
    · exact .base (.tup ha)
    · exact .fTuple ha
    · exact .kTuple h1 h2
  | scr ha rl =>
    cases h
    rcases ex_l r.ex ha with (ha | ⟨o, ha⟩) | ⟨o, its, n, h1, h2, _⟩
    · exact .base (.lst ha)
    · exact .base (.frz ha)
    · exact .kList h1 h2
  | ref a =>
    simp only [tyD] at h
    split at h
    · rename_i ds e
      cases h
      obtain ⟨xs, ha, _⟩ := r.lst e
      exact .base (.lst ha)
    · rename_i ds e
      cases h
      obtain ⟨xs, ha, _⟩ := r.dct e
      exact .base (.dK ha)
    · cases h
def oIsi : List D → Sto → DK → Prop := fun xs S k => match xs with
  | [x, .ty c] => ∃ t, tyD S x = some t ∧ c ∈ Cs ∧ k (.bl (isB t c)) S
  | _ => False
theorem clIsi' {X : Cx} (h : X.K = K := by rfl) : CallR X (.builtin "isinstance") (rIsi K) := h ▸ call_isi
theorem si_isi : SimC K (rIsi K) oIsi := fun B S H vs xs k Q r rx h1 q => by
  unfold oIsi at h1
  split at h1
  · rename_i x c
    obtain ⟨v, w, rfl, rv, rw'⟩ := rdl2 rx
    obtain ⟨t, ht, hc, h1⟩ := h1
    have hw : w = .ty c := by cases rw'; rfl
    subst hw
    exact ⟨v, .ty c, .type t, .type c, isB t c, rfl, .ty c, tyD_ok ht r rv, kit_ty (isB_ok t (tyD_mem ht) c hc), q _ S _ B H h1 (Ex.refl B) r (.bl _)⟩
  · exact h1.elim
def dIsiT (c1 c2 : String) (de : DE) : DE := fun δ S k => de δ S fun x S1 => ∃ t, tyD S1 x = some t ∧ c1 ∈ Cs ∧ c2 ∈ Cs ∧ k (.bl (isB t c1 || isB t c2)) S1
end
end DL

set_option Elab.async false
set_option linter.all false
set_option maxRecDepth 100000
namespace DL
open PySem L2 Evl EX
/-! ### methods of lists and texts -/
abbrev DM := D → List D → Sto → DK → Prop
def SimM (K : PySem.W.Frag) (r : V → List V → Hp → VK → Prop) (rd : DM) : Prop := ∀ (B : Hp) (S : Sto) (H : Hp) (v : V) (x : D) (vs : List V) (xs : List D) (k : DK) (Q : VK), R K B S H → RdD K B v x → RdL K B vs xs → rd x xs S k →
  (∀ z S' u B' H', k z S' → Ex B B' → R K B' S' H' → RdD K B' u z → Q u H') → r v vs H Q
/-- a method of a list -/
def IsL (S : Sto) : D → Prop
  | .ref a => ∃ ds, S a = some (.lst ds)
  | .list _ => True
  | .scr _ => True
  | _ => False
theorem isL_ok {K : PySem.W.Frag} {B H : Hp} {S : Sto} {v : V} {x : D} (h : IsL S x) (r : R K B S H) (rx : RdD K B v x) : tyV K "list" v H := by
  cases rx with
  | ref a =>
    obtain ⟨ds, h⟩ := h
    obtain ⟨xs, ha, _⟩ := r.lst h
    exact .inl ⟨rfl, xs, sq_of ha⟩
  | lst ha rl => exact .inl ⟨rfl, _, sq_of (r.ex _ _ ha)⟩
  | scr ha rl => exact .inl ⟨rfl, _, ex_l r.ex ha⟩
  | _ => exact h.elim
def dML (rd : DM) (do' : DE) (da : DA) : DE := fun δ S k => do' δ S fun x S1 => IsL S1 x ∧ da δ S1 fun xs S2 => rd x xs S2 k
def dMS (rd : DM) (do' : DE) (da : DA) : DE := fun δ S k => do' δ S fun x S1 => match x with
  | .str z => da δ S1 fun xs S2 => rd (.str z) xs S2 k
  | _ => False
section
variable {X : Cx} {K : PySem.W.Frag} {W : WXD} {o e : Expr} {es : List Expr} {dO : DE} {da : DA} {name : Str} {apos cpos : Pos} {id : String} {r : V → List V → Hp → VK → Prop} {rd : DM}
theorem de_ml (slot : Slot "list" name id) (hty : typeOf (.builtin id) = pure (.type "method_descriptor")) (hm : MtR X id r) (hs' : SimM K r rd) (ho : PE X o (lE K dO)) (ha : PA X (e :: es) (lA K da))
    (hbase : attributeBase o name X.env (eval o X.env) = eval o X.env := by rfl)
    (hfew : ((backTo cpos (starEach (e :: es) X.env)).all (fun x => !x.1) && (backToKw cpos (keywordEach [] X.env)).all (fun x => x.1.isSome)
      && decide ((e :: es).length + ([] : List Keyword).length + (if ([] : List Keyword).isEmpty then 0 else 1) < 30)) = true := by rfl)
    (hline : (apos.endLine == cpos.line) = true := by rfl) (hs : starEach (e :: es) X.env = (false, eval e X.env) :: starEach es X.env := by rfl) (hplain : (backTo cpos (starEach es X.env)).any (·.1) = false := by rfl) (h : X.K = K := by rfl) :
    PE X (.Call (.Attribute o name apos) (e :: es) [] cpos) (lE K (dML rd dO da)) := peOf (peBm (K := K) PySem.F.plainAttrs_list slot hty hm ho ha hbase hfew hline hs hplain h) fun σ H Q ⟨B, δ, S, k, s, r, h, q⟩ =>
  ⟨B, δ, S, _, s, r, h, fun x S1 v B1 H1 ⟨hl, h1⟩ e1 r1 d1 => ⟨isL_ok hl r1 d1, B1, δ, S1, _, s.mono e1, r1, h1, fun xs S2 vs B2 H2 h2 e2 r2 d2 => hs' B2 S2 H2 v x vs xs k Q r2 (d1.mono e2) d2 h2 fun z S' u B' H' hk e' r' d' => q z S' u B' H' hk (e1.trans (e2.trans e')) r' d'⟩⟩
theorem de_ml0 (slot : Slot "list" name id) (hty : typeOf (.builtin id) = pure (.type "method_descriptor")) (hm : MtR X id r) (hs' : SimM K r rd) (ho : PE X o (lE K dO))
    (hbase : attributeBase o name X.env (eval o X.env) = eval o X.env := by rfl) (hline : (apos.endLine == cpos.line) = true := by rfl) (h : X.K = K := by rfl) :
    PE X (.Call (.Attribute o name apos) [] [] cpos) (lE K (dML rd dO dNil)) := peOf (pe_bm0 PySem.F.plainAttrs_list slot hty hm ho hbase hline) fun σ H Q ⟨B, δ, S, k, s, r, hh, q⟩ =>
  ⟨B, δ, S, _, s, r, hh, fun x S1 v B1 H1 ⟨hl, h1⟩ e1 r1 d1 => ⟨by subst h; exact isL_ok hl r1 d1, hs' B1 S1 H1 v x [] [] k Q r1 d1 .nil h1 fun z S' u B' H' hk e' r' d' => q z S' u B' H' hk (e1.trans e') r' d'⟩⟩
end
section
variable {K : PySem.W.Frag}
def oApp : DM := fun x xs S k => match x, xs with
  | .ref a, [y] => ∃ ds, S a = some (.lst ds) ∧ ds.length < 100000 ∧ k .non (put S a (.lst (ds ++ [y])))
  | _, _ => False
theorem si_app : SimM K rAppend oApp := fun B S H v x vs xs k Q r rx rl h1 q => by
  unfold oApp at h1
  split at h1
  · obtain ⟨w, rfl, rw'⟩ := rdl1 rl
    obtain ⟨ds, hs, hl, h1⟩ := h1
    obtain ⟨ys, ha, rr⟩ := r.lst hs
    cases rd_ref rx
    exact ⟨_, ys, w, rfl, rfl, ha, sz_lt (by rw [rr.length]; exact hl), q _ _ _ B _ h1 (Ex.refl B) (r.mut hs (.lst (rr.append (.one rw')))) .non⟩
  · exact h1.elim
def oExt : DM := fun x xs S k => match x, xs with
  | .ref a, [.list es] => ∃ ds, S a = some (.lst ds) ∧ ds.length + es.length ≤ 100000 ∧ k .non (put S a (.lst (ds ++ es)))
  | _, _ => False
theorem si_ext : SimM K rExtend oExt := fun B S H v x vs xs k Q r rx rl h1 q => by
  unfold oExt at h1
  split at h1
  · obtain ⟨w, rfl, rw'⟩ := rdl1 rl
    obtain ⟨ds, hs, hl, h1⟩ := h1
    obtain ⟨ys, ha, rr⟩ := r.lst hs
    obtain ⟨b, zs, rfl, hb, rz⟩ := rd_list rw'
    cases rd_ref rx
    exact ⟨_, b, ys, zs, rfl, rfl, ha, r.ex _ _ hb, sz_of (by rw [rr.length, rz.length]; exact hl), q _ _ _ B _ h1 (Ex.refl B) (r.mut hs (.lst (rr.append rz))) .non⟩
  · exact h1.elim
def oPop : DM := fun x xs S k => match x, xs with
  | .ref a, [] => ∃ ds y, S a = some (.lst (ds ++ [y])) ∧ k y (put S a (.lst ds))
  | _, _ => False
theorem RdL.snoc {B : Hp} {xs : List V} {ds : List D} {d : D} (h : RdL K B xs (ds ++ [d])) : ∃ ys v, xs = ys ++ [v] ∧ RdL K B ys ds ∧ RdD K B v d := by
  have hl := h.length
  have h1 := h.take ds.length
  have h2 := h.drop ds.length
  rw [List.take_left'] at h1
  · rw [List.drop_left'] at h2
    · cases hx : xs.drop ds.length with
      | nil => rw [hx] at h2; cases h2
      | cons v r =>
        rw [hx] at h2
        cases h2 with
        | cons hd hr =>
          cases hr
          refine ⟨xs.take ds.length, v, ?_, h1, hd⟩
          rw [← hx, List.take_append_drop]
    · rfl
  · rfl
theorem si_pop : SimM K rPop oPop := fun B S H v x vs xs k Q r rx rl h1 q => by
  unfold oPop at h1
  split at h1
  · cases rl
    obtain ⟨ds, y, hs, h1⟩ := h1
    obtain ⟨ys, ha, rr⟩ := r.lst hs
    obtain ⟨zs, w, rfl, rz, rw'⟩ := rr.snoc
    cases rd_ref rx
    refine ⟨_, zs ++ [w], w, rfl, rfl, ha, by simp, ?_⟩
    rw [List.dropLast_concat]
    exact q _ _ _ B _ h1 (Ex.refl B) (r.mut hs (.lst rz)) rw'
  · exact h1.elim
/-- xs.pop(0) -/
def oPop0 : DM := fun x xs S k => match x, xs with
  | .ref a, [.int 0] => ∃ ds y, S a = some (.lst (y :: ds)) ∧ k y (put S a (.lst ds))
  | _, _ => False
theorem si_pop0 : SimM K rPopAt oPop0 := fun B S H v x vs xs k Q r rx rl h1 q => by
  unfold oPop0 at h1
  split at h1
  · obtain ⟨w, rfl, rw'⟩ := rdl1 rl
    obtain ⟨ds, y, hs, h1⟩ := h1
    obtain ⟨ys, ha, rr⟩ := r.lst hs
    cases rr with
    | cons hy rr =>
      cases rd_ref rx
      cases rd_int rw'
      exact ⟨_, _, 0, 0, _, rfl, rfl, ha, by decide, by decide, by simp [seqIndex?], rfl, q _ _ _ B _ h1 (Ex.refl B) (r.mut hs (.lst rr)) hy⟩
  · exact h1.elim
/-! texts -/
def oSS (f : Str → Str → D) : DM := fun x xs S k => match x, xs with
  | .str a, [.str b] => k (f a b) S
  | _, _ => False
def oSSc (C : Str → Str → Prop) (f : Str → Str → D) : DM := fun x xs S k => match x, xs with
  | .str a, [.str b] => C a b ∧ k (f a b) S
  | _, _ => False
def oSSI (f : Str → Str → Int → D) : DM := fun x xs S k => match x, xs with
  | .str a, [.str b, .int i] => k (f a b i) S
  | _, _ => False
/-- a.split(b) -/
def dSplit (da db : DE) : DE := fun δ S k => da δ S fun x S1 => match x with
  | .str a => db δ S1 fun y S2 => match y with
    | .str b => (b.length == 0) = false ∧ a.length + 2 ≤ 100000 ∧ k (.list ((Txt.split a b).map D.str)) S2
    | _ => False
  | _ => False
/-- a.join(xs) -/
def dJoin (da db : DE) : DE := fun δ S k => da δ S fun x S1 => match x with
  | .str a => db δ S1 fun y S2 => ∃ ys : List Str, SeqD S2 y (ys.map D.str) ∧ (ys.map (·.length)).sum + ys.length * a.length ≤ 16777216 ∧ k (.str (Txt.join a ys)) S2
  | _ => False
end
section
variable {X : Cx} {K : PySem.W.Frag} {W : WXD} {o e : Expr} {dO de : DE} {apos pos : Pos}
/-! x op= e -/
def dAug (i : Nat) (f : Int → Int → Int) (de : DE) : DS := fun D δ S => match δ[i]? with
  | some (some (.int a)) => de δ S fun y S1 => match y with
    | .int b => D.nx (δ.set i (some (.int (f a b)))) S1
    | _ => False
  | _ => False
end
end DL

set_option Elab.async false
set_option linter.all false
set_option maxRecDepth 100000
namespace DL
open PySem L2 Evl EX
/-! ### == at any depth -/
mutual
def D.py : D → PyData
  | .bl b => .bool b
  | .int i => .int i
  | .str x => .str x
  | .list ds => .list (pyL ds)
  | .scr ds => .list (pyL ds)
  | .tup ds => .tuple (pyL ds)
  | _ => .none
def pyL : List D → List PyData
  | [] => []
  | d :: ds => d.py :: pyL ds
end
mutual
/-- data of numbers (or, f: of truth values), texts (well made), None, lists, tuples -/
def D.nbG (f : Bool) : D → Bool
  | .non => true
  | .int _ => !f
  | .bl _ => f
  | .str x => PyData.strOk x
  | .list ds => nbGL f ds
  | .tup ds => nbGL f ds
  | _ => false
def nbGL (f : Bool) : List D → Bool
  | [] => true
  | d :: ds => d.nbG f && nbGL f ds
end
abbrev D.nb (d : D) : Bool := d.nbG false
abbrev nbL (ds : List D) : Bool := nbGL false ds
mutual
def D.deep : D → Nat
  | .list ds => deepL ds + 1
  | .tup ds => deepL ds + 1
  | _ => 0
def deepL : List D → Nat
  | [] => 0
  | d :: ds => max d.deep (deepL ds)
end
theorem nbGL_iff {f : Bool} : ∀ ds : List D, nbGL f ds = true ↔ ∀ d ∈ ds, d.nbG f = true
  | [] => by simp [nbGL]
  | d :: ds => by simp [nbGL, nbGL_iff ds]
theorem nbL_iff (ds : List D) : nbL ds = true ↔ ∀ d ∈ ds, d.nb = true := nbGL_iff ds
theorem deepL_le {n : Nat} : ∀ ds : List D, deepL ds ≤ n ↔ ∀ d ∈ ds, d.deep ≤ n
  | [] => by simp [deepL]
  | d :: ds => by simp [deepL, deepL_le ds, Nat.max_le]
mutual
theorem py_lay {f : Bool} : ∀ d : D, d.nbG f = true → d.py.canLay0 = true
  | .non, _ => rfl
  | .int _, _ => rfl
  | .str x, h => by simpa [D.nbG, D.py, PyData.canLay0] using h
  | .list ds, h => by
    rw [D.nbG] at h
    rw [D.py, PyData.canLay0]
    exact pyL_lay ds h
  | .tup ds, h => by
    rw [D.nbG] at h
    rw [D.py, PyData.canLay0]
    exact pyL_lay ds h
  | .bl _, h => rfl
  | .ref _, h => by cases h
  | .ty _, h => by cases h
  | .scr _, h => by simp [D.nbG] at h
theorem pyL_lay {f : Bool} : ∀ ds : List D, nbGL f ds = true → PyData.canLayAll0 (pyL ds) = true
  | [], _ => rfl
  | d :: ds, h => by
    rw [nbGL, Bool.and_eq_true] at h
    rw [pyL, PyData.canLayAll0, py_lay d h.1, pyL_lay ds h.2]
    rfl
end
mutual
theorem py_deep {f : Bool} : ∀ d : D, d.nbG f = true → d.py.depth = d.deep
  | .non, _ => rfl
  | .int _, _ => rfl
  | .str x, h => rfl
  | .list ds, h => by
    rw [D.nbG] at h
    rw [D.py, PyData.depth, D.deep, pyL_deep ds h]
  | .tup ds, h => by
    rw [D.nbG] at h
    rw [D.py, PyData.depth, D.deep, pyL_deep ds h]
  | .bl _, h => rfl
  | .ref _, h => by cases h
  | .ty _, h => by cases h
  | .scr _, h => by simp [D.nbG] at h
theorem pyL_deep {f : Bool} : ∀ ds : List D, nbGL f ds = true → PyData.depthAll (pyL ds) = deepL ds
  | [], _ => rfl
  | d :: ds, h => by
    rw [nbGL, Bool.and_eq_true] at h
    rw [pyL, PyData.depthAll, deepL, py_deep d h.1, pyL_deep ds h.2]
end
mutual
theorem py_inj {f : Bool} : ∀ d e : D, d.nbG f = true → e.nbG f = true → PyData.eqv d.py e.py = true → d = e
  | .non, e, _, he, h => by cases e <;> first | rfl | (simp [D.py, PyData.eqv] at h; done) | (simp [D.nbG] at he; done)
  | .int i, e, hd, he, h => by
    cases e with
    | int j => simp [D.py, PyData.eqv] at h; rw [h]
    | bl b => simp [D.nbG] at hd he; rw [hd] at he; cases he
    | _ => first | (simp [D.py, PyData.eqv] at h; done) | (simp [D.nbG] at he; done)
  | .str x, e, _, he, h => by
    cases e with
    | str y => simp [D.py, PyData.eqv] at h; rw [h]
    | _ => first | (simp [D.py, PyData.eqv] at h; done) | (simp [D.nbG] at he; done)
  | .list ds, e, hd, he, h => by
    cases e with
    | list es =>
      rw [D.nbG] at hd he
      rw [D.py, D.py, PyData.eqv] at h
      rw [pyL_inj ds es hd he h]
    | _ => first | (simp [D.py, PyData.eqv] at h; done) | (simp [D.nbG] at he; done)
  | .tup ds, e, hd, he, h => by
    cases e with
    | tup es =>
      rw [D.nbG] at hd he
      rw [D.py, D.py, PyData.eqv] at h
      rw [pyL_inj ds es hd he h]
    | _ => first | (simp [D.py, PyData.eqv] at h; done) | (simp [D.nbG] at he; done)
  | .bl b, e, hd, he, h => by
    cases e with
    | bl c => simp [D.py, PyData.eqv] at h; rw [h]
    | int i => simp [D.nbG] at hd he; rw [hd] at he; cases he
    | _ => first | (simp [D.py, PyData.eqv] at h; done) | (simp [D.nbG] at he; done)
  | .ref _, _, hd, _, _ => by cases hd
  | .ty _, _, hd, _, _ => by cases hd
  | .scr _, _, hd, _, _ => by simp [D.nbG] at hd
theorem pyL_inj {f : Bool} : ∀ ds es : List D, nbGL f ds = true → nbGL f es = true → PyData.eqvAll (pyL ds) (pyL es) = true → ds = es
  | [], [], _, _, _ => rfl
  | [], _ :: _, _, _, h => by simp [pyL, PyData.eqvAll] at h
  | _ :: _, [], _, _, h => by simp [pyL, PyData.eqvAll] at h
  | d :: ds, e :: es, hd, he, h => by
    rw [nbGL, Bool.and_eq_true] at hd he
    rw [pyL, pyL, PyData.eqvAll, Bool.and_eq_true] at h
    rw [py_inj d e hd.1 he.1 h.1, pyL_inj ds es hd.2 he.2 h.2]
end
open Classical in
theorem eqv_dec {f : Bool} {d e : D} (hd : d.nbG f = true) (he : e.nbG f = true) : PyData.eqv d.py e.py = decide (d = e) := by
  by_cases h : d = e
  · subst h
    rw [decide_eq_true rfl]
    exact SeqAt.eqv_refl d.py (py_lay d hd)
  · rw [decide_eq_false h]
    cases q : PyData.eqv d.py e.py with
    | false => rfl
    | true => exact absurd (py_inj d e hd he q) h
section
variable {K : PySem.W.Frag} {B H : Hp}
mutual
theorem dp_of {f : Bool} (e : Ex B H) : ∀ {v : V} {d : D}, RdD K B v d → d.nbG f = true → Dp K H v d.py
  | _, _, .non, _ => .non
  | _, _, .int i, _ => .int i
  | _, _, .str x, _ => .str x
  | _, _, .lst ha r, h => by
    rw [D.nbG] at h
    rw [D.py]
    exact .lst (sq_of (e _ _ ha)) (dpL_of e r h)
  | _, _, .tup ha r, h => by
    rw [D.nbG] at h
    rw [D.py]
    exact .tup (ex_t e ha) (dpL_of e r h)
  | _, _, .bl b, h => .bl b
  | _, _, .ref _, h => by cases h
  | _, _, .ty _, h => by cases h
  | _, _, .scr _ _, h => by simp [D.nbG] at h
theorem dpL_of {f : Bool} (e : Ex B H) : ∀ {vs : List V} {ds : List D}, RdL K B vs ds → nbGL f ds = true → DpAll K H vs (pyL ds)
  | _, _, .nil, _ => .nil
  | _, _, .cons h r, hn => by
    rw [nbGL, Bool.and_eq_true] at hn
    rw [pyL]
    exact .cons (dp_of e h hn.1) (dpL_of e r hn.2)
end
/-- a list of the store told by what it holds -/
def res (S : Sto) : D → D
  | .ref a => match S a with
    | some (.lst ds) => .list ds
    | _ => .ref a
  | x => x
theorem dp_res {f : Bool} {S : Sto} {v : V} {x : D} (r : R K B S H) (rx : RdD K B v x) (h : (res S x).nbG f = true) : Dp K H v (res S x).py := by
  cases x with
  | ref a =>
    simp only [res] at h ⊢
    cases e : S a with
    | none => rw [e] at h; cases h
    | some o =>
      cases o with
      | lst ds =>
        rw [e] at h
        simp only [D.nbG] at h
        obtain ⟨xs, ha, rl⟩ := r.lst e
        cases rd_ref rx
        simp only [D.py]
        exact .lst (sq_of ha) (dpL_of r.ex rl h)
      | _ => rw [e] at h; cases h
  | _ => exact dp_of r.ex rx h
end
section
variable {X : Cx} {K : PySem.W.Frag}
def rEqM (K : PySem.W.Frag) (neg : Bool) : R2 := fun x y H Q => ∃ d e, Dp K H x d ∧ Dp K H y e ∧ d.canLay0 = true ∧ e.canLay0 = true ∧ min d.depth e.depth ≤ 64 ∧ Q (.bl (if neg then !PyData.eqv d e else PyData.eqv d e)) H
theorem op_eqM (hu : X.A.units + 64 < cLine) (hk : X.K = K := by rfl) : OpR X (compareOp .Eq) (rEqM K false) := by
  intro pins s σ H x y v u Q I rx ry h
  subst hk
  obtain ⟨d, e, hd, he, sd, se, hm, q⟩ := h
  obtain ⟨as, r1⟩ := Dp.reads I d x v hd rx
  obtain ⟨bs, r2⟩ := Dp.reads I e y u he ry
  exact SeqAt.compareEq_reads r1 r2 sd se (by omega) ⟨.bl _, H, I, rfl, q⟩
theorem op_neM (hu : X.A.units + 64 < cLine) (hk : X.K = K := by rfl) : OpR X (compareOp .NotEq) (rEqM K true) := by
  intro pins s σ H x y v u Q I rx ry h
  subst hk
  obtain ⟨d, e, hd, he, sd, se, hm, q⟩ := h
  obtain ⟨as, r1⟩ := Dp.reads I d x v hd rx
  obtain ⟨bs, r2⟩ := Dp.reads I e y u he ry
  exact SeqAt.compareNe_reads r1 r2 sd se (by omega) ⟨.bl _, H, I, rfl, q⟩
open Classical in
def oEqD (neg : Bool) : DR2 := fun x y S k => ∃ f, (res S x).nbG f = true ∧ (res S y).nbG f = true ∧ min (res S x).deep (res S y).deep ≤ 64 ∧ k (.bl (if neg then !decide (res S x = res S y) else decide (res S x = res S y))) S
theorem si_eqM (neg : Bool) : Sim2 K (rEqM K neg) (oEqD neg) := fun B S H v w x y k Q r rx ry h1 q => by
  obtain ⟨f, hx, hy, hm, h1⟩ := h1
  refine ⟨_, _, dp_res r rx hx, dp_res r ry hy, py_lay _ hx, py_lay _ hy, by rw [py_deep _ hx, py_deep _ hy]; exact hm, ?_⟩
  rw [eqv_dec hx hy]
  exact q _ S _ B H h1 (Ex.refl B) r (.bl _)
/-! x in xs, a list of data -/
open Classical in
def oInD (neg : Bool) : DR2 := fun x y S k => ∃ ds, y = .list ds ∧ x.nb = true ∧ nbL ds = true ∧ x.deep ≤ 64 ∧ deepL ds ≤ 60 ∧ k (.bl (if neg then !decide (x ∈ ds) else decide (x ∈ ds))) S
end
end DL

set_option Elab.async false
set_option linter.all false
set_option maxRecDepth 100000
/-! ### draws, told over data -/
namespace DL
open PySem L2 Evl EX
section
variable {K : PySem.W.Frag} {B H H' : Hp} {S : Sto}
theorem R.drawn (r : R K B S H) {tp : Addr} (ht : S tp = some .tap) (e : Ex (hide tp H) H') (t : Tap H' tp) : R K B S H' := by
  have hb := (r.own tp _ ht).1
  refine ⟨(ex_hide r.ex hb).trans e, fun a o h => ?_⟩
  obtain ⟨n, ho, h1, h2⟩ := r.own a o h
  by_cases z : a = tp
  · subst z
    rw [ht] at h
    cases h
    obtain ⟨x, y, u, v, h3⟩ := t
    exact ⟨n, _, h3, .tap x y u v⟩
  · exact ⟨n, ho, e a ho (hide_get h1 z), h2⟩
/-- all that is new stands fast -/
theorem R.grow (r : R K B S H) (e : Ex H H') : ∃ B', Ex B B' ∧ R K B' S H' ∧ ∀ a o, H' a = some o → S a = none → B' a = some o := by
  refine ⟨fun a => if (S a).isSome then none else H' a, fun a o h => ?_, ⟨fun a o h => ?_, fun a o h => ?_⟩, fun a o h n => ?_⟩
  · have hs : S a = none := by
      cases q : S a with
      | none => rfl
      | some u => rw [(r.own a u q).1] at h; cases h
    show (if (S a).isSome = true then none else H' a) = some o
    rw [hs]
    exact e a o (r.ex a o h)
  · have h' : (if (S a).isSome = true then none else H' a) = some o := h
    split at h'
    · cases h'
    · exact h'
  · obtain ⟨n, ho, h1, h2⟩ := r.own a o h
    refine ⟨?_, ho, e a ho h1, h2.mono fun b u hb => ?_⟩
    · show (if (S a).isSome = true then none else H' a) = none
      rw [h]
      rfl
    · have hs : S b = none := by
        cases q : S b with
        | none => rfl
        | some u => rw [(r.own b u q).1] at hb; cases hb
      show (if (S b).isSome = true then none else H' b) = some u
      rw [hs]
      exact e b u (r.ex b u hb)
  · show (if (S a).isSome = true then none else H' a) = some o
    rw [n]
    exact h
end
section
variable {P : Program} {w : World} {K : PySem.W.Frag} {mg : Str → Option Value} {base : Heap} {k : Nat} {f : Addr} {fd : FuncData} {ps : List Str}
end
end DL

set_option Elab.async false
set_option linter.all false
set_option maxRecDepth 100000
/-! ### stepping: readings over data, rewritten from the head on -/
namespace DL
open PySem L2 Evl EX
/-- what is marked is not rewritten within -/
structure Tag {α : Sort _} (a : α) : Type where
/-- an open choice -/
def branch (b : Bool) (A B : Prop) (_ : Tag (fun x : Bool => if x = true then A else B)) : Prop := if b = true then A else B
/-- a slot that is read -/
def rdv (o : Option (Option D)) (S : Sto) (k : DK) (_ : Tag k) : Prop := match o with
  | some (some d) => k d S
  | _ => False
def tst (x : D) (S : Sto) (k : Bool → Sto → Prop) (_ : Tag k) : Prop := match x with
  | .bl b => k b S
  | _ => False
def tstV (x : D) (k : Bool → Prop) (_ : Tag k) : Prop := match x with
  | .bl b => k b
  | _ => False
/-- a call by a promise -/
def ask (f : SpD) (xs : List D) (S : Sto) (k : DK) (_ : Tag k) : Prop := f xs S k fun _ _ _ => False
/-- a new place -/
def fresh (S : Sto) (k : Addr → Prop) (_ : Tag k) : Prop := ∀ p, S p = none → k p
def few (n : Nat) (A : Prop) (_ : Tag A) : Prop := n ≤ 100000 ∧ A
/-- what is asked, then the rest -/
def need (C A : Prop) (_ : Tag A) : Prop := C ∧ A
def ixq (x : D) (i : Int) (S : Sto) (k : DK) (_ : Tag k) : Prop := oIx x (.int i) S k
theorem x_few {n : Nat} {A : Prop} (h : n ≤ 100000) : few n A ⟨⟩ = A := propext ⟨fun z => z.2, fun z => ⟨h, z⟩⟩
theorem x_need {C A : Prop} (h : C) : need C A ⟨⟩ = A := propext ⟨fun z => z.2, fun z => ⟨h, z⟩⟩
section
variable {δ : Dst} {S : Sto} {k : DK} {kt : Bool → Sto → Prop} {ka : List D → Sto → Prop} {E : DEnds} {da db de : DE} {dA : DA} {t u : DT} {d e : DS} {i j : Nat} {x y : D}
theorem x_seq : dSeq d e E δ S = d { E with nx := e E } δ S := propext Iff.rfl
theorem x_nx : dNext E δ S = E.nx δ S := propext Iff.rfl
theorem x_pass : dPass E δ S = E.nx δ S := propext Iff.rfl
theorem x_brk : dBreak E δ S = E.bk δ S := propext Iff.rfl
theorem x_cnt : dCont E δ S = E.ct δ S := propext Iff.rfl
theorem x_drop : dDrop de E δ S = de δ S fun _ S1 => E.nx δ S1 := propext Iff.rfl
theorem x_ret : dRet de E δ S = de δ S E.rt := propext Iff.rfl
theorem x_retN : dRetN E δ S = E.rt .non S := propext Iff.rfl
theorem x_ifS : dIfS t d e E δ S = t δ S fun b S1 => branch b (d E δ S1) (e E δ S1) ⟨⟩ := propext Iff.rfl
theorem x_set : dSet de i E δ S = de δ S fun x S1 => E.nx (δ.set i (some x)) S1 := propext Iff.rfl
theorem x_asg {g : DG} : dAsg de g E δ S = de δ S fun x S1 => g x δ S1 E.nx := propext Iff.rfl
theorem x_gN {kg : Dst → Sto → Prop} : gN i x δ S kg = kg (δ.set i (some x)) S := propext Iff.rfl
theorem x_gT {n : Nat} {gs : DGs} {ds : List D} {kg : Dst → Sto → Prop} : gT n gs (.tup ds) δ S kg = need (ds.length = n) (gs ds δ S kg) ⟨⟩ := propext Iff.rfl
theorem x_gsC {g : DG} {gs : DGs} {ds : List D} {kg : Dst → Sto → Prop} : gsCons g gs (x :: ds) δ S kg = g x δ S fun δ' S' => gs ds δ' S' kg := propext Iff.rfl
theorem x_gsN {kg : Dst → Sto → Prop} : gsNil [] δ S kg = kg δ S := propext Iff.rfl
theorem x_var : dVar i δ S k = rdv δ[i]? S k ⟨⟩ := propext (by unfold dVar rdv; exact Iff.rfl)
theorem x_rdv : rdv (some (some x)) S k ⟨⟩ = k x S := propext Iff.rfl
theorem x_c : dC x δ S k = k x S := propext Iff.rfl
theorem x_op {rd : DR2} : dOp rd da db δ S k = da δ S fun x S1 => db δ S1 fun y S2 => rd x y S2 k := propext Iff.rfl
theorem x_test : dTest de δ S kt = de δ S fun x S1 => tst x S1 kt ⟨⟩ := propext (by unfold dTest tst; exact Iff.rfl)
theorem x_tst {b : Bool} : tst (.bl b) S kt ⟨⟩ = kt b S := propext Iff.rfl
theorem x_and : dAnd t u δ S kt = t δ S fun c S1 => branch c (u δ S1 kt) (kt false S1) ⟨⟩ := propext Iff.rfl
theorem x_or : dOr t u δ S kt = t δ S fun c S1 => branch c (kt true S1) (u δ S1 kt) ⟨⟩ := propext Iff.rfl
theorem x_not : dNot t δ S kt = t δ S fun c S1 => kt (!c) S1 := propext Iff.rfl
theorem x_andV : dAndV da db δ S k = da δ S fun x S1 => tstV x (fun c => branch c (db δ S1 k) (k (.bl false) S1) ⟨⟩) ⟨⟩ := propext (by unfold dAndV tstV; exact Iff.rfl)
theorem x_orV : dOrV da db δ S k = da δ S fun x S1 => tstV x (fun c => branch c (k (.bl true) S1) (db δ S1 k) ⟨⟩) ⟨⟩ := propext (by unfold dOrV tstV; exact Iff.rfl)
theorem x_notV : dNotV da δ S k = da δ S fun x S1 => tstV x (fun c => k (.bl (!c)) S1) ⟨⟩ := propext (by unfold dNotV tstV; exact Iff.rfl)
theorem x_tstV {b : Bool} {kb : Bool → Prop} : tstV (.bl b) kb ⟨⟩ = kb b := propext Iff.rfl
theorem x_ifE : dIf t da db δ S k = t δ S fun c S1 => branch c (da δ S1 k) (db δ S1 k) ⟨⟩ := propext Iff.rfl
theorem x_true {A B : Prop} : branch true A B ⟨⟩ = A := by unfold branch; simp
theorem x_false {A B : Prop} : branch false A B ⟨⟩ = B := by unfold branch; simp
theorem x_nil : dNil δ S ka = ka [] S := propext Iff.rfl
theorem x_cons : dCons da dA δ S ka = da δ S fun x S1 => dA δ S1 fun xs S2 => ka (x :: xs) S2 := propext Iff.rfl
theorem x_tup : dTup dA δ S k = dA δ S fun xs S1 => few xs.length (k (.tup xs) S1) ⟨⟩ := propext Iff.rfl
theorem x_lst : dLst dA δ S k = dA δ S fun xs S1 => few xs.length (k (.list xs) S1) ⟨⟩ := propext Iff.rfl
theorem x_new : dNew dA δ S k = dA δ S fun xs S1 => few xs.length (fresh S1 (fun p => k (.ref p) (put S1 p (.lst xs))) ⟨⟩) ⟨⟩ := propext Iff.rfl
theorem x_newD : dNewD δ S k = fresh S (fun p => k (.ref p) (put S p (.dct []))) ⟨⟩ := propext Iff.rfl
theorem x_call {f : SpD} : dCall f dA δ S k = dA δ S fun xs S1 => ask f xs S1 k ⟨⟩ := propext Iff.rfl
theorem x_cb {rd : List D → Sto → DK → Prop} : dCB rd dA δ S k = dA δ S fun xs S1 => rd xs S1 k := propext Iff.rfl
theorem x_oI {f : Int → Int → D} {a b : Int} : oI f (.int a) (.int b) S k = k (f a b) S := propext Iff.rfl
theorem x_oIc {C : Int → Int → Prop} {f : Int → Int → D} {a b : Int} : oIc C f (.int a) (.int b) S k = need (C a b) (k (f a b) S) ⟨⟩ := propext Iff.rfl
theorem x_oS {f : Str → Str → D} {a b : Str} : oS f (.str a) (.str b) S k = k (f a b) S := propext Iff.rfl
theorem x_addS {a b : Str} : oAddS (.str a) (.str b) S k = few (a.length + b.length) (k (.str (a ++ b)) S) ⟨⟩ := propext Iff.rfl
theorem x_isN : oIsN false x .non S k = k (.bl (isNon x)) S := propext Iff.rfl
theorem x_notN : oIsN true x .non S k = k (.bl (!isNon x)) S := propext Iff.rfl
theorem x_eqI {a b : Int} : oEq false (.int a) (.int b) S k = k (.bl (decide (a = b))) S := propext Iff.rfl
theorem x_eqS {a b : Str} : oEq false (.str a) (.str b) S k = k (.bl (decide (a = b))) S := propext Iff.rfl
theorem x_eqIS {a : Int} {b : Str} : oEq false (.int a) (.str b) S k = k (.bl false) S := propext Iff.rfl
theorem x_eqSI {a : Str} {b : Int} : oEq false (.str a) (.int b) S k = k (.bl false) S := propext Iff.rfl
theorem x_eqNS {b : Str} : oEq false .non (.str b) S k = k (.bl false) S := propext Iff.rfl
theorem x_neI {a b : Int} : oEq true (.int a) (.int b) S k = k (.bl (!decide (a = b))) S := propext Iff.rfl
theorem x_neS {a b : Str} : oEq true (.str a) (.str b) S k = k (.bl (!decide (a = b))) S := propext Iff.rfl
theorem x_neB {a b : Bool} : oEq true (.bl a) (.bl b) S k = k (.bl (!decide (a = b))) S := propext Iff.rfl
theorem x_eqB {a b : Bool} : oEq false (.bl a) (.bl b) S k = k (.bl (decide (a = b))) S := propext Iff.rfl
theorem x_lenS {z : Str} : oLen [.str z] S k = few z.length (k (.int z.length) S) ⟨⟩ := propext Iff.rfl
theorem ix_of {ds : List D} {i : Int} {d : D} {k : DK} {x : D} (hx : x = .list ds ∨ x = .tup ds ∨ x = .scr ds) (h : atI ds i = some d) : oIx x (.int i) S k = k d S := by
  rcases hx with rfl | rfl | rfl
  all_goals
    refine propext ⟨fun ⟨es, e, hs, he, q⟩ => ?_, fun q => ⟨ds, d, rfl, h, q⟩⟩
    cases (show ds = es from hs)
    rw [h] at he
    cases he
    exact q
theorem x_ix {a : Int} : oIx x (.int a) S k = ixq x a S k ⟨⟩ := propext Iff.rfl
theorem x_ixq {ds : List D} {i : Int} {d : D} (hx : x = .list ds ∨ x = .tup ds ∨ x = .scr ds) (h : atI ds i = some d) : ixq x i S k ⟨⟩ = k d S := ix_of hx h
theorem x_ixL0 {a : D} {r : List D} : ixq (.list (a :: r)) 0 S k ⟨⟩ = k a S := ix_of (.inl rfl) (atI_nat (j := 0) rfl)
theorem x_ixT0 {a : D} {r : List D} : ixq (.tup (a :: r)) 0 S k ⟨⟩ = k a S := ix_of (.inr (.inl rfl)) (atI_nat (j := 0) rfl)
theorem x_ixT1 {a b : D} {r : List D} : ixq (.tup (a :: b :: r)) 1 S k ⟨⟩ = k b S := ix_of (.inr (.inl rfl)) (atI_nat (j := 1) rfl)
theorem x_ixT2 {a b c : D} {r : List D} : ixq (.tup (a :: b :: c :: r)) 2 S k ⟨⟩ = k c S := ix_of (.inr (.inl rfl)) (atI_nat (j := 2) rfl)
theorem x_ixT3 {a b c d : D} {r : List D} : ixq (.tup (a :: b :: c :: d :: r)) 3 S k ⟨⟩ = k d S := ix_of (.inr (.inl rfl)) (atI_nat (j := 3) rfl)
theorem x_ixT4 {a b c d e : D} {r : List D} : ixq (.tup (a :: b :: c :: d :: e :: r)) 4 S k ⟨⟩ = k e S := ix_of (.inr (.inl rfl)) (atI_nat (j := 4) rfl)
theorem seq_of {S : Sto} {x : D} {ds : List D} {Q : List D → Prop} (h : SeqD S x ds) : (∃ es, SeqD S x es ∧ Q es) = Q ds := by
  refine propext ⟨fun ⟨es, hs, q⟩ => ?_, fun q => ⟨ds, h, q⟩⟩
  have : es = ds := by
    unfold SeqD at h hs
    cases x with
    | list l => exact hs.symm.trans h
    | scr l => exact hs.symm.trans h
    | tup l => exact hs.symm.trans h
    | ref a =>
      have h' : S a = some (.lst ds) := h
      have hs' : S a = some (.lst es) := hs
      rw [h'] at hs'
      cases hs'
      rfl
    | _ => exact h.elim
  rw [← this]
  exact q
theorem x_lenL {ds : List D} : oLen [.list ds] S k = k (.int ds.length) S := seq_of (Q := fun es => k (.int es.length) S) rfl
theorem x_lenT {ds : List D} : oLen [.tup ds] S k = k (.int ds.length) S := seq_of (Q := fun es => k (.int es.length) S) rfl
theorem x_lenC {ds : List D} : oLen [.scr ds] S k = k (.int ds.length) S := seq_of (Q := fun es => k (.int es.length) S) rfl
theorem x_lenR {a : Addr} {ds : List D} (h : S a = some (.lst ds)) : oLen [.ref a] S k = k (.int ds.length) S := seq_of (Q := fun es => k (.int es.length) S) h
theorem x_listL {ds : List D} : oList [.list ds] S k = k (.list ds) S := seq_of (Q := fun es => k (.list es) S) rfl
theorem x_listT {ds : List D} : oList [.tup ds] S k = k (.list ds) S := seq_of (Q := fun es => k (.list es) S) rfl
theorem x_tupL {ds : List D} : oTuple [.list ds] S k = k (.tup ds) S := seq_of (Q := fun es => k (.tup es) S) rfl
theorem x_tupT {ds : List D} : oTuple [.tup ds] S k = k (.tup ds) S := seq_of (Q := fun es => k (.tup es) S) rfl
theorem x_strI {a : Int} : oStr [.int a] S k = need (a.natAbs.log2 < 1920) (k (.str (toString a)) S) ⟨⟩ := propext Iff.rfl
theorem x_strS {a : Str} : oStr [.str a] S k = k (.str a) S := propext Iff.rfl
theorem x_int1 {a : Int} : oInt1 [.int a] S k = k (.int a) S := propext Iff.rfl
theorem x_intB {b : Bool} : oInt1 [.bl b] S k = k (.int (if b then 1 else 0)) S := propext Iff.rfl
theorem x_I1 {f : Int → D} {a : Int} : oI1 f [.int a] S k = k (f a) S := propext Iff.rfl
theorem x_I2 {f : Int → Int → D} {a b : Int} : oI2 f [.int a, .int b] S k = k (f a b) S := propext Iff.rfl
theorem x_cat {a b : List D} : oCat (.list a) (.list b) S k = few (a.length + b.length) (k (.list (a ++ b)) S) ⟨⟩ := propext Iff.rfl
theorem x_catT {a b : List D} : oCatT (.tup a) (.tup b) S k = need (a ≠ []) (few (a.length + b.length) (k (.tup (a ++ b)) S) ⟨⟩) ⟨⟩ := propext Iff.rfl
theorem x_split {a b : Str} : dSplit (dC (.str a)) (dC (.str b)) δ S k = need ((b.length == 0) = false) (few (a.length + 2) (k (.list ((Txt.split a b).map D.str)) S) ⟨⟩) ⟨⟩ := propext Iff.rfl
theorem x_frz : dFrz i δ S k = rdv δ[i]? S (fun x _ => ∃ a ds, x = .ref a ∧ S a = some (.lst ds) ∧ k (.list ds) (del S a)) ⟨⟩ := by
  unfold dFrz rdv
  refine propext ⟨fun h => ?_, fun h => ?_⟩
  · split at h
    · rename_i b e
      obtain ⟨ds, h1, h2⟩ := h
      rw [e]
      exact ⟨b, ds, rfl, h1, h2⟩
    · exact h.elim
  · split at h
    · rename_i d e
      obtain ⟨b, ds, rfl, h1, h2⟩ := h
      rw [e]
      exact ⟨ds, h1, h2⟩
    · exact h.elim
end
theorem br {b : Bool} {A B : Prop} (h1 : b = true → A) (h2 : b = false → B) : branch b A B ⟨⟩ := by
  unfold branch
  cases b with
  | true => exact h1 rfl
  | false => exact h2 rfl
section
variable {δ : Dst} {S : Sto} {t u : DT} {a b : Bool} {de : DE}
end
end DL
namespace DL
open PySem L2 Evl EX
section
variable {S : Sto} {k : DK} {tp : Addr} {x : D}
/-- xs[j], j a place that is there -/
theorem ixAt {ds : List D} {j : Nat} {d : D} (hx : x = .list ds ∨ x = .tup ds ∨ x = .scr ds) (h : ds[j]? = some d) (q : k d S) : ixq x (j : Int) S k ⟨⟩ := by
  rw [x_ixq hx (atI_nat h)]
  exact q
theorem fewOf {n : Nat} {A : Prop} (h : n ≤ 100000) (q : A) : few n A ⟨⟩ := ⟨h, q⟩
theorem needOf {C A : Prop} (h : C) (q : A) : need C A ⟨⟩ := ⟨h, q⟩
theorem freshOf {k : Addr → Prop} (h : ∀ p, S p = none → k p) : fresh S k ⟨⟩ := h
end
end DL

set_option Elab.async false
set_option linter.all false
set_option maxRecDepth 100000
namespace DL
open PySem L2 Evl EX
theorem nrfl {α : Sort _} {a b : α} (h : a = b) : a = b := h
theorem x_flS {s : Str} : flatD (.str s) = true := nrfl rfl
theorem x_flI {s : Int} : flatD (.int s) = true := nrfl rfl
theorem x_flN : flatD .non = true := nrfl rfl
theorem x_flB {s : Bool} : flatD (.bl s) = true := nrfl rfl
theorem x_cs_bool : ("bool" ∈ Cs) = True := eq_true (by decide)
theorem x_isB_NoneType_bool : isB "NoneType" "bool" = false := nrfl (by decide)
theorem x_isB_bool_bool : isB "bool" "bool" = true := nrfl (by decide)
theorem x_isB_int_bool : isB "int" "bool" = false := nrfl (by decide)
theorem x_isB_str_bool : isB "str" "bool" = false := nrfl (by decide)
theorem x_isB_list_bool : isB "list" "bool" = false := nrfl (by decide)
theorem x_isB_tuple_bool : isB "tuple" "bool" = false := nrfl (by decide)
theorem x_isB_dict_bool : isB "dict" "bool" = false := nrfl (by decide)
theorem x_cs_int : ("int" ∈ Cs) = True := eq_true (by decide)
theorem x_isB_NoneType_int : isB "NoneType" "int" = false := nrfl (by decide)
theorem x_isB_bool_int : isB "bool" "int" = true := nrfl (by decide)
theorem x_isB_int_int : isB "int" "int" = true := nrfl (by decide)
theorem x_isB_str_int : isB "str" "int" = false := nrfl (by decide)
theorem x_isB_list_int : isB "list" "int" = false := nrfl (by decide)
theorem x_isB_tuple_int : isB "tuple" "int" = false := nrfl (by decide)
theorem x_isB_dict_int : isB "dict" "int" = false := nrfl (by decide)
theorem x_cs_str : ("str" ∈ Cs) = True := eq_true (by decide)
theorem x_isB_NoneType_str : isB "NoneType" "str" = false := nrfl (by decide)
theorem x_isB_bool_str : isB "bool" "str" = false := nrfl (by decide)
theorem x_isB_int_str : isB "int" "str" = false := nrfl (by decide)
theorem x_isB_str_str : isB "str" "str" = true := nrfl (by decide)
theorem x_isB_list_str : isB "list" "str" = false := nrfl (by decide)
theorem x_isB_tuple_str : isB "tuple" "str" = false := nrfl (by decide)
theorem x_isB_dict_str : isB "dict" "str" = false := nrfl (by decide)
theorem x_cs_list : ("list" ∈ Cs) = True := eq_true (by decide)
theorem x_isB_NoneType_list : isB "NoneType" "list" = false := nrfl (by decide)
theorem x_isB_bool_list : isB "bool" "list" = false := nrfl (by decide)
theorem x_isB_int_list : isB "int" "list" = false := nrfl (by decide)
theorem x_isB_str_list : isB "str" "list" = false := nrfl (by decide)
theorem x_isB_list_list : isB "list" "list" = true := nrfl (by decide)
theorem x_isB_tuple_list : isB "tuple" "list" = false := nrfl (by decide)
theorem x_isB_dict_list : isB "dict" "list" = false := nrfl (by decide)
theorem x_cs_tuple : ("tuple" ∈ Cs) = True := eq_true (by decide)
theorem x_isB_NoneType_tuple : isB "NoneType" "tuple" = false := nrfl (by decide)
theorem x_isB_bool_tuple : isB "bool" "tuple" = false := nrfl (by decide)
theorem x_isB_int_tuple : isB "int" "tuple" = false := nrfl (by decide)
theorem x_isB_str_tuple : isB "str" "tuple" = false := nrfl (by decide)
theorem x_isB_list_tuple : isB "list" "tuple" = false := nrfl (by decide)
theorem x_isB_tuple_tuple : isB "tuple" "tuple" = true := nrfl (by decide)
theorem x_isB_dict_tuple : isB "dict" "tuple" = false := nrfl (by decide)
theorem x_cs_dict : ("dict" ∈ Cs) = True := eq_true (by decide)
theorem x_isB_NoneType_dict : isB "NoneType" "dict" = false := nrfl (by decide)
theorem x_isB_bool_dict : isB "bool" "dict" = false := nrfl (by decide)
theorem x_isB_int_dict : isB "int" "dict" = false := nrfl (by decide)
theorem x_isB_str_dict : isB "str" "dict" = false := nrfl (by decide)
theorem x_isB_list_dict : isB "list" "dict" = false := nrfl (by decide)
theorem x_isB_tuple_dict : isB "tuple" "dict" = false := nrfl (by decide)
theorem x_isB_dict_dict : isB "dict" "dict" = true := nrfl (by decide)
/-! what waits for an answer -/
def st2 (rd : DR2) (x y : D) (S : Sto) (k : DK) (_ : Tag k) : Prop := rd x y S k
def stC (rd : List D → Sto → DK → Prop) (xs : List D) (S : Sto) (k : DK) (_ : Tag k) : Prop := rd xs S k
def stM (rd : DM) (x : D) (xs : List D) (S : Sto) (k : DK) (_ : Tag k) : Prop := rd x xs S k
def stL (rd : D → Option Int → Option Int → Sto → DK → Prop) (x : D) (l u : Option Int) (S : Sto) (k : DK) (_ : Tag k) : Prop := rd x l u S k
def itL (x : D) (S : Sto) (k : List D → Sto → Prop) (_ : Tag k) : Prop := match x with
  | .list ds => k ds S
  | .scr ds => k ds S
  | _ => False
def itT (x : D) (S : Sto) (k : List D → Sto → Prop) (_ : Tag k) : Prop := match x with
  | .tup ds => k ds S
  | _ => False
def itS (x : D) (S : Sto) (k : List D → Sto → Prop) (_ : Tag k) : Prop := match x with
  | .str z => k (z.cps.toList.map fun c => .str ⟨#[c]⟩) S
  | _ => False
def forC (ds : List D) (g : DG) (b : DS) (E : DEnds) (δ : Dst) (S : Sto) (_ : Tag (E, g, b)) : Prop := ∃ I : Nat → Dst → Sto → Prop, I 0 δ S ∧
  (∀ n d δ' S', ds[n]? = some d → I n δ' S' → g d δ' S' fun δ2 S2 => b { E with nx := I (n + 1), ct := I (n + 1), bk := E.nx } δ2 S2) ∧ ∀ δ' S', I ds.length δ' S' → E.nx δ' S'
def lcC (ds : List D) (g : DGc) (t : DT) (de : DE) (vs : List Nat) (δ : Dst) (S : Sto) (k : DK) (_ : Tag (k, g, t, de)) : Prop := ds.length < 100000 ∧ ∀ p, S p = none → ∃ I : Nat → List D → Sto → Prop, I 0 [] S ∧
  (∀ n d acc S', ds[n]? = some d → S' p = none → I n acc S' → g d (wipeD δ vs) fun δ2 => t δ2 (put S' p (.lst acc)) fun b S2 => if b = true then de δ2 S2 (fun y S3 => ∃ S4, S4 p = none ∧ S3 = put S4 p (.lst acc) ∧ I (n + 1) (acc ++ [y]) S4) else ∃ S4, S4 p = none ∧ S2 = put S4 p (.lst acc) ∧ I (n + 1) acc S4) ∧
  ∀ acc S', S' p = none → I ds.length acc S' → k (.list acc) S'
def cutC (d e : DS) (E : DEnds) (δ : Dst) (S : Sto) (_ : Tag (E, d, e)) : Prop := dCut d e E δ S
theorem x_cut {d e : DS} {E : DEnds} {δ : Dst} {S : Sto} : dCut d e E δ S = cutC d e E δ S ⟨⟩ := propext Iff.rfl
/-- a word between a statement and the rest -/
theorem cutOf {d e : DS} {E : DEnds} {δ : Dst} {S : Sto} (M : Dst → Sto → Prop) (h : d { E with nx := M } δ S) (k : ∀ δ' S', M δ' S' → e E δ' S') : cutC d e E δ S ⟨⟩ := ⟨M, h, k⟩
def whlC (t : DT) (b : DS) (E : DEnds) (δ : Dst) (S : Sto) (_ : Tag (E, t, b)) : Prop := dWhile t b E δ S
section
variable {δ : Dst} {S : Sto} {k : DK} {kt : Bool → Sto → Prop} {ka : List D → Sto → Prop} {E : DEnds} {da db de : DE} {dA : DA} {t u : DT} {d e b : DS} {i j : Nat} {x y : D} {g : DG} {gc : DGc} {di : DI} {vs : List Nat} {ds : List D} {a : Addr}
theorem x_for : dFor di g b E δ S = di δ S fun ds S1 => forC ds g b E δ S1 ⟨⟩ := propext Iff.rfl
theorem x_lc : dLc di gc t de vs δ S k = di δ S fun ds S1 => lcC ds gc t de vs δ S1 k ⟨⟩ := propext Iff.rfl
theorem x_whl : dWhile t b E δ S = whlC t b E δ S ⟨⟩ := propext Iff.rfl
theorem x_diL : diL de δ S ka = de δ S fun x S1 => itL x S1 ka ⟨⟩ := propext (by unfold diL itL; exact Iff.rfl)
theorem x_diT : diT de δ S ka = de δ S fun x S1 => itT x S1 ka ⟨⟩ := propext (by unfold diT itT; exact Iff.rfl)
theorem x_diS : diStr de δ S ka = de δ S fun x S1 => itS x S1 ka ⟨⟩ := propext (by unfold diStr itS; exact Iff.rfl)
theorem x_itL : itL (.list ds) S ka ⟨⟩ = ka ds S := propext Iff.rfl
theorem x_itC : itL (.scr ds) S ka ⟨⟩ = ka ds S := propext Iff.rfl
theorem x_itT : itT (.tup ds) S ka ⟨⟩ = ka ds S := propext Iff.rfl
theorem x_itS {z : Str} : itS (.str z) S ka ⟨⟩ = ka (z.cps.toList.map fun c => .str ⟨#[c]⟩) S := propext Iff.rfl
def rng1 (xs : List D) (S : Sto) (k : List D → Sto → Prop) (_ : Tag k) : Prop := match xs with
  | [.int j] => -(2 ^ 62) ≤ j ∧ j < 2 ^ 62 ∧ k (rngD 0 j.toNat) S
  | _ => False
def rng2 (xs : List D) (S : Sto) (k : List D → Sto → Prop) (_ : Tag k) : Prop := match xs with
  | [.int i, .int j] => (-(2 ^ 62) ≤ i ∧ i < 2 ^ 62 ∧ -(2 ^ 62) ≤ j ∧ j < 2 ^ 62) ∧ k (rngD i (j - i).toNat) S
  | _ => False
def enm (xs : List D) (S : Sto) (k : List D → Sto → Prop) (_ : Tag k) : Prop := match xs with
  | [.list ds] => k (enumD ds) S
  | [.scr ds] => k (enumD ds) S
  | _ => False
theorem x_diR1 : diR1 dA δ S ka = dA δ S fun xs S1 => rng1 xs S1 ka ⟨⟩ := propext (by unfold diR1 rng1; exact Iff.rfl)
theorem x_diR2 : diR2 dA δ S ka = dA δ S fun xs S1 => rng2 xs S1 ka ⟨⟩ := propext (by unfold diR2 rng2; exact Iff.rfl)
theorem x_diE : diEnum dA δ S ka = dA δ S fun xs S1 => enm xs S1 ka ⟨⟩ := propext (by unfold diEnum enm; exact Iff.rfl)
theorem x_enmL : enm [.list ds] S ka ⟨⟩ = ka (enumD ds) S := propext Iff.rfl
theorem x_enmC : enm [.scr ds] S ka ⟨⟩ = ka (enumD ds) S := propext Iff.rfl
theorem rngOf {n : Int} (h0 : 0 ≤ n) (h1 : n ≤ 100000) (q : ka (rngD 0 n.toNat) S) : rng1 [.int n] S ka ⟨⟩ := ⟨by omega, by omega, q⟩
/-- a loop by its invariant -/
theorem forOf (I : Nat → Dst → Sto → Prop) (h0 : I 0 δ S) (hs : ∀ n d δ' S', ds[n]? = some d → I n δ' S' → g d δ' S' fun δ2 S2 => b { E with nx := I (n + 1), ct := I (n + 1), bk := E.nx } δ2 S2) (hd : ∀ δ' S', I ds.length δ' S' → E.nx δ' S') : forC ds g b E δ S ⟨⟩ := ⟨I, h0, hs, hd⟩
theorem whlOf (W : Nat → Dst → Sto → Prop) (m : Nat) (h0 : W m δ S) (hs : ∀ m δ' S', W m δ' S' → t δ' S' fun c S1 => branch c (b { E with nx := fun δ2 S2 => ∃ m', m' < m ∧ W m' δ2 S2, ct := fun δ2 S2 => ∃ m', m' < m ∧ W m' δ2 S2, bk := E.nx } δ' S1) (E.nx δ' S1) ⟨⟩) : whlC t b E δ S ⟨⟩ := ⟨W, ⟨m, h0⟩, hs⟩
theorem lcOf (P : Nat → List D → Prop) (hl : ds.length < 100000) (h0 : P 0 [])
    (hs : ∀ p, S p = none → ∀ n d acc, ds[n]? = some d → P n acc → gc d (wipeD δ vs) fun δ2 => t δ2 (put S p (.lst acc)) fun b S2 => branch b (de δ2 S2 (fun y S3 => LcO S p acc (P (n + 1) (acc ++ [y])) S3)) (LcO S p acc (P (n + 1) acc) S2) ⟨⟩) (hd : ∀ acc, P ds.length acc → k (.list acc) S) :
    lcC ds gc t de vs δ S k ⟨⟩ := lc_go P hl h0 hs hd
theorem x_gcN {kg : Dst → Prop} : gcN i x δ kg = kg (δ.set i (some x)) := propext Iff.rfl
theorem x_gcT {js : List Nat} {kg : Dst → Prop} : gcT js (.tup ds) δ kg = need (ds.length = js.length) (kg (setD δ js ds)) ⟨⟩ := propext Iff.rfl
theorem x_yes : dYes δ S kt = kt true S := propext Iff.rfl
/-! methods -/
theorem x_ml {rd : DM} : dML rd da dA δ S k = da δ S fun x S1 => need (IsL S1 x) (dA δ S1 fun xs S2 => stM rd x xs S2 k ⟨⟩) ⟨⟩ := propext Iff.rfl
def strq (x : D) (k : Str → Prop) (_ : Tag k) : Prop := match x with
  | .str z => k z
  | _ => False
theorem x_ms {rd : DM} : dMS rd da dA δ S k = da δ S fun x S1 => strq x (fun z => dA δ S1 fun xs S2 => stM rd (.str z) xs S2 k ⟨⟩) ⟨⟩ := propext (by unfold dMS strq stM; exact Iff.rfl)
theorem x_strq {z : Str} {kz : Str → Prop} : strq (.str z) kz ⟨⟩ = kz z := propext Iff.rfl
theorem appOf (h : S a = some (.lst ds)) (hl : ds.length < 100000) (q : k .non (put S a (.lst (ds ++ [y])))) : stM oApp (.ref a) [y] S k ⟨⟩ := ⟨ds, h, hl, q⟩
theorem extOf {es : List D} (h : S a = some (.lst ds)) (hl : ds.length + es.length ≤ 100000) (q : k .non (put S a (.lst (ds ++ es)))) : stM oExt (.ref a) [.list es] S k ⟨⟩ := ⟨ds, h, hl, q⟩
theorem popOf (h : S a = some (.lst (ds ++ [y]))) (q : k y (put S a (.lst ds))) : stM oPop (.ref a) [] S k ⟨⟩ := ⟨ds, y, h, q⟩
theorem isLOf (h : S a = some (.lst ds)) : IsL S (.ref a) := ⟨ds, h⟩
theorem x_ss {f : Str → Str → D} {a b : Str} : stM (oSS f) (.str a) [.str b] S k ⟨⟩ = k (f a b) S := propext Iff.rfl
theorem x_ssc {C : Str → Str → Prop} {f : Str → Str → D} {a b : Str} : stM (oSSc C f) (.str a) [.str b] S k ⟨⟩ = need (C a b) (k (f a b) S) ⟨⟩ := propext Iff.rfl
theorem x_ssi {f : Str → Str → Int → D} {a b : Str} {i : Int} : stM (oSSI f) (.str a) [.str b, .int i] S k ⟨⟩ = k (f a b i) S := propext Iff.rfl
def joinq (a : Str) (y : D) (S : Sto) (k : DK) (_ : Tag k) : Prop := ∃ ys : List Str, SeqD S y (ys.map D.str) ∧ (ys.map (·.length)).sum + ys.length * a.length ≤ 16777216 ∧ k (.str (Txt.join a ys)) S
theorem x_join : dJoin da db δ S k = da δ S fun x S1 => strq x (fun z => db δ S1 fun y S2 => joinq z y S2 k ⟨⟩) ⟨⟩ := propext (by unfold dJoin strq joinq; exact Iff.rfl)
theorem x_st2I {f : Int → Int → D} {a b : Int} : st2 (oI f) (.int a) (.int b) S k ⟨⟩ = k (f a b) S := propext Iff.rfl
/-! slices -/
theorem x_sl {rd : D → Option Int → Option Int → Sto → DK → Prop} {dl dh : DO} : dSl rd da dl dh δ S k = da δ S fun x S1 => dl δ S1 fun l S2 => dh δ S2 fun u S3 => stL rd x l u S3 k ⟨⟩ := propext Iff.rfl
theorem x_noP {ko : Option Int → Sto → Prop} : dNoP δ S ko = ko none S := propext Iff.rfl
def intq (x : D) (k : Int → Prop) (_ : Tag k) : Prop := match x with
  | .int z => k z
  | _ => False
theorem x_part {ko : Option Int → Sto → Prop} : dPart da δ S ko = da δ S fun x S1 => intq x (fun i => ko (some i) S1) ⟨⟩ := propext (by unfold dPart intq; exact Iff.rfl)
theorem x_intq {i : Int} {ki : Int → Prop} : intq (.int i) ki ⟨⟩ = ki i := propext Iff.rfl
theorem x_aug {f : Int → Int → Int} : dAug i f de E δ S = rdv δ[i]? S (fun x _ => intq x (fun a => de δ S fun y S1 => intq y (fun b => E.nx (δ.set i (some (.int (f a b)))) S1) ⟨⟩) ⟨⟩) ⟨⟩ := propext (by
  unfold dAug rdv intq
  cases h : δ[i]? with
  | none => exact Iff.rfl
  | some o =>
    cases o with
    | none => exact Iff.rfl
    | some d => cases d <;> exact Iff.rfl)
theorem x_slL {l u : Option Int} : stL oSlL (.list ds) l u S k ⟨⟩ = k (.list (cutD ds l u)) S := propext Iff.rfl
theorem x_slC {l u : Option Int} : stL oSlL (.scr ds) l u S k ⟨⟩ = k (.list (cutD ds l u)) S := propext Iff.rfl
theorem x_slS {l u : Option Int} {z : Str} : stL oSlS (.str z) l u S k ⟨⟩ = few z.length (k (.str (cutS z l u)) S) ⟨⟩ := propext Iff.rfl
/-! in, == -/
theorem x_in {neg : Bool} : oIn neg x y S k = st2 (oIn neg) x y S k ⟨⟩ := propext Iff.rfl
theorem x_inT (h1 : flatD x = true) (h2 : ds.all flatD = true) : st2 (oIn false) x (.tup ds) S k ⟨⟩ = k (.bl (inD x ds)) S :=
  (seq_of (Q := fun es => flatD x = true ∧ es.all flatD = true ∧ k (.bl (inD x es)) S) (show SeqD S (.tup ds) ds from rfl)).trans (propext ⟨fun z => z.2.2, fun z => ⟨h1, h2, z⟩⟩)
theorem x_inL (h1 : flatD x = true) (h2 : ds.all flatD = true) : st2 (oIn false) x (.list ds) S k ⟨⟩ = k (.bl (inD x ds)) S :=
  (seq_of (Q := fun es => flatD x = true ∧ es.all flatD = true ∧ k (.bl (inD x es)) S) (show SeqD S (.list ds) ds from rfl)).trans (propext ⟨fun z => z.2.2, fun z => ⟨h1, h2, z⟩⟩)
theorem x_ninT (h1 : flatD x = true) (h2 : ds.all flatD = true) : st2 (oIn true) x (.tup ds) S k ⟨⟩ = k (.bl (!inD x ds)) S :=
  (seq_of (Q := fun es => flatD x = true ∧ es.all flatD = true ∧ k (.bl (!inD x es)) S) (show SeqD S (.tup ds) ds from rfl)).trans (propext ⟨fun z => z.2.2, fun z => ⟨h1, h2, z⟩⟩)
theorem x_ninL (h1 : flatD x = true) (h2 : ds.all flatD = true) : st2 (oIn true) x (.list ds) S k ⟨⟩ = k (.bl (!inD x ds)) S :=
  (seq_of (Q := fun es => flatD x = true ∧ es.all flatD = true ∧ k (.bl (!inD x es)) S) (show SeqD S (.list ds) ds from rfl)).trans (propext ⟨fun z => z.2.2, fun z => ⟨h1, h2, z⟩⟩)
theorem x_inR (h : S a = some (.lst ds)) (h1 : flatD x = true) (h2 : ds.all flatD = true) : st2 (oIn false) x (.ref a) S k ⟨⟩ = k (.bl (inD x ds)) S :=
  (seq_of (Q := fun es => flatD x = true ∧ es.all flatD = true ∧ k (.bl (inD x es)) S) (show SeqD S (.ref a) ds from h)).trans (propext ⟨fun z => z.2.2, fun z => ⟨h1, h2, z⟩⟩)
theorem x_ninR (h : S a = some (.lst ds)) (h1 : flatD x = true) (h2 : ds.all flatD = true) : st2 (oIn true) x (.ref a) S k ⟨⟩ = k (.bl (!inD x ds)) S :=
  (seq_of (Q := fun es => flatD x = true ∧ es.all flatD = true ∧ k (.bl (!inD x es)) S) (show SeqD S (.ref a) ds from h)).trans (propext ⟨fun z => z.2.2, fun z => ⟨h1, h2, z⟩⟩)
theorem x_inN : inD x [] = false := by simp [inD, inV]
theorem x_inSS {s z : Str} : inD (.str s) (.str z :: ds) = (decide (s = z) || inD (.str s) ds) := by
  unfold inD
  rw [List.map_cons]
  show (([V.str z] ++ _).any _) = _
  rw [List.any_append]
  congr 1
  show ((z == s) || false) = _
  rw [Bool.or_false, Bool.eq_iff_iff]
  simp only [beq_iff_eq, decide_eq_true_eq]
  exact eq_comm
theorem x_inSI {s : Str} {z : Int} : inD (.str s) (.int z :: ds) = inD (.str s) ds := by unfold inD; rfl
theorem x_inIS {s : Int} {z : Str} : inD (.int s) (.str z :: ds) = inD (.int s) ds := by unfold inD; rfl
theorem x_inII {s z : Int} : inD (.int s) (.int z :: ds) = (decide (s = z) || inD (.int s) ds) := by
  unfold inD
  rw [List.map_cons]
  show (([V.int z] ++ _).any _) = _
  rw [List.any_append]
  congr 1
  show ((z == s) || false) = _
  rw [Bool.or_false, Bool.eq_iff_iff]
  simp only [beq_iff_eq, decide_eq_true_eq]
  exact eq_comm
theorem x_sg {neg : Bool} : oSg neg x y S k = st2 (oSg neg) x y S k ⟨⟩ := propext Iff.rfl
theorem x_sgS {c : Nat} {z : Str} : st2 (oSg false) (.str ⟨#[c]⟩) (.str z) S k ⟨⟩ = k (.bl (decide (c ∈ z.cps.toList))) S := propext ⟨fun ⟨d, e, q⟩ => by
  have : c = d := by injection e with e; injection e with e; simpa using congrArg (fun a : Array Nat => a.toList) e
  subst this
  exact q, fun q => ⟨c, rfl, q⟩⟩
theorem x_nsgS {c : Nat} {z : Str} : st2 (oSg true) (.str ⟨#[c]⟩) (.str z) S k ⟨⟩ = k (.bl (!decide (c ∈ z.cps.toList))) S := propext ⟨fun ⟨d, e, q⟩ => by
  have : c = d := by injection e with e; injection e with e; simpa using congrArg (fun a : Array Nat => a.toList) e
  subst this
  exact q, fun q => ⟨c, rfl, q⟩⟩
theorem x_eqD {neg : Bool} : oEqD neg x y S k = st2 (oEqD neg) x y S k ⟨⟩ := propext Iff.rfl
theorem x_inDD {neg : Bool} : oInD neg x y S k = st2 (oInD neg) x y S k ⟨⟩ := propext Iff.rfl
open Classical in
theorem eqDOf {p q : D} (hx : res S x = p) (hy : res S y = q) (h1 : p.nb = true) (h2 : q.nb = true) (h3 : min p.deep q.deep ≤ 64) (h : k (.bl (decide (p = q))) S) : st2 (oEqD false) x y S k ⟨⟩ := by
  subst hx hy
  exact ⟨false, h1, h2, h3, h⟩
open Classical in
theorem neDOf {p q : D} (hx : res S x = p) (hy : res S y = q) (h1 : p.nb = true) (h2 : q.nb = true) (h3 : min p.deep q.deep ≤ 64) (h : k (.bl (!decide (p = q))) S) : st2 (oEqD true) x y S k ⟨⟩ := by
  subst hx hy
  exact ⟨false, h1, h2, h3, h⟩
theorem x_mulS {a : Str} {n : Int} : oMulS (.str a) (.int n) S k = need (a.length ≤ 16 ∧ -(2 ^ 63 : Int) ≤ n ∧ n ≤ 1048576) (k (.str (Txt.mul a n)) S) ⟨⟩ := propext ⟨fun ⟨a, b, c, d⟩ => ⟨⟨a, b, c⟩, d⟩, fun ⟨⟨a, b, c⟩, d⟩ => ⟨a, b, c, d⟩⟩
/-! isinstance, any, all, sorted, .. -/
theorem x_isi {xs : List D} : oIsi xs S k = stC oIsi xs S k ⟨⟩ := propext Iff.rfl
theorem isi_of {c t : String} (h : tyD S x = some t) (hc : c ∈ Cs) : stC oIsi [x, .ty c] S k ⟨⟩ = k (.bl (isB t c)) S := propext ⟨fun ⟨u, hu, _, q⟩ => by rw [h] at hu; cases hu; exact q, fun q => ⟨t, h, hc, q⟩⟩
theorem x_isiS {s : Str} {c : String} (hc : c ∈ Cs) : stC oIsi [.str s, .ty c] S k ⟨⟩ = k (.bl (isB "str" c)) S := isi_of rfl hc
theorem x_isiI {s : Int} {c : String} (hc : c ∈ Cs) : stC oIsi [.int s, .ty c] S k ⟨⟩ = k (.bl (isB "int" c)) S := isi_of rfl hc
theorem x_isiB {s : Bool} {c : String} (hc : c ∈ Cs) : stC oIsi [.bl s, .ty c] S k ⟨⟩ = k (.bl (isB "bool" c)) S := isi_of rfl hc
theorem x_isiN {c : String} (hc : c ∈ Cs) : stC oIsi [.non, .ty c] S k ⟨⟩ = k (.bl (isB "NoneType" c)) S := isi_of rfl hc
theorem x_isiL {c : String} (hc : c ∈ Cs) : stC oIsi [.list ds, .ty c] S k ⟨⟩ = k (.bl (isB "list" c)) S := isi_of rfl hc
theorem x_isiT {c : String} (hc : c ∈ Cs) : stC oIsi [.tup ds, .ty c] S k ⟨⟩ = k (.bl (isB "tuple" c)) S := isi_of rfl hc
theorem x_isiR {c : String} (h : S a = some (.lst ds)) (hc : c ∈ Cs) : stC oIsi [.ref a, .ty c] S k ⟨⟩ = k (.bl (isB "list" c)) S := isi_of (by simp only [tyD, h]) hc
def isTq (c1 c2 : String) (x : D) (S : Sto) (k : DK) (_ : Tag k) : Prop := ∃ t, tyD S x = some t ∧ c1 ∈ Cs ∧ c2 ∈ Cs ∧ k (.bl (isB t c1 || isB t c2)) S
theorem x_isTT {c1 c2 : String} : dIsiT c1 c2 de δ S k = de δ S fun x S1 => isTq c1 c2 x S1 k ⟨⟩ := propext Iff.rfl
theorem isT_of {c1 c2 t : String} (h : tyD S x = some t) (h1 : c1 ∈ Cs) (h2 : c2 ∈ Cs) : isTq c1 c2 x S k ⟨⟩ = k (.bl (isB t c1 || isB t c2)) S := propext ⟨fun ⟨u, hu, _, _, q⟩ => by rw [h] at hu; cases hu; exact q, fun q => ⟨t, h, h1, h2, q⟩⟩
theorem x_itI {c1 c2 : String} {s : Int} (h1 : c1 ∈ Cs) (h2 : c2 ∈ Cs) : isTq c1 c2 (.int s) S k ⟨⟩ = k (.bl (isB "int" c1 || isB "int" c2)) S := isT_of rfl h1 h2
theorem x_itStr {c1 c2 : String} {s : Str} (h1 : c1 ∈ Cs) (h2 : c2 ∈ Cs) : isTq c1 c2 (.str s) S k ⟨⟩ = k (.bl (isB "str" c1 || isB "str" c2)) S := isT_of rfl h1 h2
theorem x_itN {c1 c2 : String} (h1 : c1 ∈ Cs) (h2 : c2 ∈ Cs) : isTq c1 c2 .non S k ⟨⟩ = k (.bl (isB "NoneType" c1 || isB "NoneType" c2)) S := isT_of rfl h1 h2
theorem x_itB {c1 c2 : String} {s : Bool} (h1 : c1 ∈ Cs) (h2 : c2 ∈ Cs) : isTq c1 c2 (.bl s) S k ⟨⟩ = k (.bl (isB "bool" c1 || isB "bool" c2)) S := isT_of rfl h1 h2
theorem x_itLst {c1 c2 : String} (h1 : c1 ∈ Cs) (h2 : c2 ∈ Cs) : isTq c1 c2 (.list ds) S k ⟨⟩ = k (.bl (isB "list" c1 || isB "list" c2)) S := isT_of rfl h1 h2
theorem x_itTup {c1 c2 : String} (h1 : c1 ∈ Cs) (h2 : c2 ∈ Cs) : isTq c1 c2 (.tup ds) S k ⟨⟩ = k (.bl (isB "tuple" c1 || isB "tuple" c2)) S := isT_of rfl h1 h2
theorem ixSeq {j : Nat} {d : D} (h : SeqD S x ds) (hd : ds[j]? = some d) (q : k d S) : ixq x (j : Int) S k ⟨⟩ := by
  cases x with
  | list l => exact ixAt (.inl rfl) (by rw [show l = ds from h]; exact hd) q
  | tup l => exact ixAt (.inr (.inl rfl)) (by rw [show l = ds from h]; exact hd) q
  | scr l => exact ixAt (.inr (.inr rfl)) (by rw [show l = ds from h]; exact hd) q
  | ref a => exact ⟨ds, d, h, atI_nat hd, q⟩
  | _ => exact (show False from h).elim
theorem x_any {xs : List D} : oAny xs S k = stC oAny xs S k ⟨⟩ := propext Iff.rfl
theorem x_all {xs : List D} : oAll xs S k = stC oAll xs S k ⟨⟩ := propext Iff.rfl
theorem x_sum {xs : List D} : oSum xs S k = stC oSum xs S k ⟨⟩ := propext Iff.rfl
theorem x_srtI {xs : List D} : oSortI xs S k = stC oSortI xs S k ⟨⟩ := propext Iff.rfl
theorem x_srtS {xs : List D} : oSortS xs S k = stC oSortS xs S k ⟨⟩ := propext Iff.rfl
theorem x_intS {z : Str} : oIntS [.str z] S k = stC oIntS [.str z] S k ⟨⟩ := propext Iff.rfl
theorem x_lenRf : oLen [.ref a] S k = stC oLen [.ref a] S k ⟨⟩ := propext Iff.rfl
theorem lenRf (h : S a = some (.lst ds)) (q : k (.int ds.length) S) : stC oLen [.ref a] S k ⟨⟩ := by
  show oLen [.ref a] S k
  rw [x_lenR h]
  exact q
theorem x_tupRf : oTuple [.ref a] S k = stC oTuple [.ref a] S k ⟨⟩ := propext Iff.rfl
def frzq (x : D) (S : Sto) (k : DK) (_ : Tag k) : Prop := ∃ a ds, x = .ref a ∧ S a = some (.lst ds) ∧ k (.list ds) (del S a)
theorem frzOf (h : S a = some (.lst ds)) (q : k (.list ds) (del S a)) : frzq (.ref a) S k ⟨⟩ := ⟨a, ds, rfl, h, q⟩
theorem x_frz' : dFrz i δ S k = rdv δ[i]? S (fun x _ => frzq x S k ⟨⟩) ⟨⟩ := x_frz
end
end DL

set_option Elab.async false
set_option linter.all false
set_option maxRecDepth 100000
/-! ### classes of the program's own -/
namespace DL
open PySem L2 Evl EX
/-- a class: what the text has of it, its fields -/
structure ClsD (K : PySem.W.Frag) (C : Addr) (flds : List Str) : Prop where
  cl : Cls K C
  nF : ∀ f ∈ flds, NoAttr K C f
structure MDef (P : Program) (w : World) (K : PySem.W.Frag) (mg : Str → Option Value) (base : Heap) (k : Nat) (C : Addr) (m : Str) (ps : List Str) (sp : Sp) : Prop where
  ex : ∃ (f : Addr) (fd : FuncData), FnOk P w K mg base CX0 k f fd ps sp ∧ Meth K C m f ∧ Binds K fd ps []
structure MkDef (P : Program) (w : World) (K : PySem.W.Frag) (mg : Str → Option Value) (base : Heap) (k : Nat) (x : Str) (C : Addr) (ps : List Str) (sp : Sp) : Prop where
  ex : ∃ (f : Addr) (fd : FuncData), Mk K C f ∧ FnOk P w K mg base CX0 k f fd ps sp ∧ mg x = some (.ref C) ∧ Binds K fd ps []
def putFD (f : Str) (v : D) : List (Str × D) → List (Str × D)
  | [] => [(f, v)]
  | (g, w) :: r => if g = f then (g, v) :: r else (g, w) :: putFD f v r
section
variable {K : PySem.W.Frag} {B : Hp}
theorem rdkv_lookup {f : Str} : ∀ {fs : List (Str × V)} {gs : List (Str × D)}, RdKV K B fs gs → ∀ {d : D}, gs.lookup f = some d → ∃ v, fs.lookup f = some v ∧ RdD K B v d
  | _, _, .nil, _, h => by cases h
  | (a, v) :: fs, (b, e) :: gs, .cons h r, d, hd => by
    obtain ⟨h1, h2⟩ := h
    have h1 : a = b := h1
    subst h1
    rw [List.lookup_cons] at hd ⊢
    cases q : f == a with
    | true => rw [q] at hd; cases hd; exact ⟨v, rfl, h2⟩
    | false => rw [q] at hd; exact rdkv_lookup r hd
theorem rdkv_none {f : Str} : ∀ {fs : List (Str × V)} {gs : List (Str × D)}, RdKV K B fs gs → gs.lookup f = none → fs.lookup f = none
  | _, _, .nil, _ => rfl
  | (a, v) :: fs, (b, e) :: gs, .cons h r, hd => by
    have h1 : a = b := h.1
    subst h1
    rw [List.lookup_cons] at hd ⊢
    cases q : f == a with
    | true => rw [q] at hd; cases hd
    | false => rw [q] at hd; exact rdkv_none r hd
theorem rdkv_put {f : Str} {v : V} {d : D} (hv : RdD K B v d) : ∀ {fs : List (Str × V)} {gs : List (Str × D)}, RdKV K B fs gs → RdKV K B (putF f v fs) (putFD f d gs)
  | _, _, .nil => .cons ⟨rfl, hv⟩ .nil
  | (a, w) :: fs, (b, e) :: gs, .cons h r => by
    have h1 : a = b := h.1
    subst h1
    unfold putF putFD
    by_cases q : a = f
    · rw [if_pos q, if_pos q]
      exact .cons ⟨rfl, hv⟩ r
    · rw [if_neg q, if_neg q]
      exact .cons h (rdkv_put hv r)
end
def fldq (C : Addr) (x : D) (f : Str) (S : Sto) (k : DK) (_ : Tag k) : Prop := ∃ a dx fs v, x = .ref a ∧ S a = some (.ins C dx fs) ∧ fs.lookup f = some v ∧ k v S
def dFld (C : Addr) (de : DE) (f : Str) : DE := fun δ S k => de δ S fun x S1 => fldq C x f S1 k ⟨⟩
def fldsq (C : Addr) (x : D) (f : Str) (y : D) (S : Sto) (k : Sto → Prop) (_ : Tag k) : Prop := ∃ a dx fs, x = .ref a ∧ S a = some (.ins C dx fs) ∧ fs.length < 1000 ∧ k (put S a (.ins C dx (putFD f y fs)))
def dFldS (C : Addr) (dv dO : DE) (f : Str) : DS := fun E δ S => dv δ S fun y S1 => dO δ S1 fun x S2 => fldsq C x f y S2 (fun S3 => E.nx δ S3) ⟨⟩
/-- o.f op= e, of ints -/
def dFldA (C : Addr) (g : Int → Int → Int) (dv dO : DE) (f : Str) : DS := fun E δ S => dO δ S fun x S1 => fldq C x f S1 (fun v S2 => dv δ S2 fun y S3 => st2 (oI fun i j => .int (g i j)) v y S3 (fun z S4 => fldsq C x f z S4 (fun S5 => E.nx δ S5) ⟨⟩) ⟨⟩) ⟨⟩
def dMeth (C : Addr) (m : Str) (f : SpD) (dO : DE) (da : DA) : DE := fun δ S k => dO δ S fun x S1 => need (∃ a dx fs, x = .ref a ∧ S1 a = some (.ins C dx fs) ∧ fs.lookup m = none) (da δ S1 fun xs S2 => ask f (x :: xs) S2 k ⟨⟩) ⟨⟩
def dMake (C : Addr) (f : SpD) (da : DA) : DE := fun δ S k => da δ S fun xs S1 => fresh S1 (fun a => ∀ dx, ask f (.ref a :: xs) (put S1 a (.ins C dx [])) (fun v S2 => v = .non ∧ k (.ref a) S2) ⟨⟩) ⟨⟩
section
variable {X : Cx} {K : PySem.W.Frag} {W : WXD} {C : Addr} {o e value : Expr} {es : List Expr} {f m x : Str} {dO dv de : DE} {da : DA} {pos pos' apos tpos p : Pos} {flds : List Str} {k : Nat} {ps : List Str} {sp : SpD}
theorem de_fld (hc : ClsD K C flds) (hf : f ∈ flds) (h : PE X e (lE K de)) (hb : attributeBase e f X.env (eval e X.env) = eval e X.env := by rfl) (hk : X.K = K := by rfl) : PE X (.Attribute e f pos) (lE K (dFld C de f)) := by
  subst hk
  refine peOf (pe_fld h hb) fun σ H Q ⟨B, δ, S, k, s, r, h, q⟩ => ⟨B, δ, S, _, s, r, h, fun x S1 v B1 H1 h1 e1 r1 d1 => ?_⟩
  obtain ⟨a, dx, fs, v', rfl, ha, hl, h1⟩ := h1
  obtain ⟨gs, hg, rg⟩ := r1.ins ha
  obtain ⟨w, hw, rw'⟩ := rdkv_lookup rg hl
  cases rd_ref d1
  exact ⟨a, C, dx, gs, w, rfl, hg, hc.cl, hc.nF f hf, hw, q _ S1 _ B1 H1 h1 e1 r1 rw'⟩
theorem ds_fld (hc : ClsD K C flds) (hf : f ∈ flds) (ha : PE X o (lE K dO)) (hv : PE X value (lE K dv)) (hs : swapsWith value (some (.Attribute o f pos')) pos.line X.env = pure false := by rfl) (hk : X.K = K := by rfl) : PS X (.Assign [.Attribute o f pos'] value pos) (lS K W (dFldS C dv dO f)) := by
  subst hk
  refine psOf (ps_fld ha hv hs) fun E σ H ⟨B, δ, S, D, s, r, h, l⟩ => ⟨B, δ, S, _, s, r, h, fun y S1 w B1 H1 h1 e1 r1 d1 => ⟨B1, δ, S1, _, s.mono e1, r1, h1, fun x S2 v B2 H2 h2 e2 r2 d2 => ?_⟩⟩
  obtain ⟨a, dx, fs, rfl, ha, hl, h2⟩ := h2
  obtain ⟨gs, hg, rg⟩ := r2.ins ha
  cases rd_ref d2
  exact ⟨a, C, dx, gs, rfl, hg, hc.cl, hc.nF f hf, by rw [rdkv_len rg]; exact hl, l.nx δ _ σ B2 _ h2 (e1.trans e2) (s.mono (e1.trans e2)) (r2.mut ha (.ins (rdkv_put (d1.mono e2) rg)))⟩
theorem ds_fldaug {op : Operator} {g : Int → Int → Int} (hc : ClsD K C flds) (hf : f ∈ flds) (ha : PE X o (lE K dO)) (hv : PE X value (lE K dv)) (ho : InOp X op (fun x y H Q => ∃ i j, x = .int i ∧ y = .int j ∧ Q (.int (g i j)) H)) (hk : X.K = K := by rfl) : PS X (.AugAssign (.Attribute o f tpos) op value pos) (lS K W (dFldA C g dv dO f)) := by
  subst hk
  refine psOf (ps_fldaug ha hv ho) fun E σ H ⟨B, δ, S, D, s, r, h, l⟩ => ⟨B, δ, S, _, s, r, h, fun x S1 v B1 H1 h1 e1 r1 d1 => ?_⟩
  obtain ⟨a, dx, fs, v', rfl, ha, hl, h1⟩ := h1
  obtain ⟨gs, hg, rg⟩ := r1.ins ha
  obtain ⟨w, hw, rw'⟩ := rdkv_lookup rg hl
  cases rd_ref d1
  refine ⟨a, C, dx, gs, w, rfl, hg, hc.cl, hc.nF f hf, hw, B1, δ, S1, _, s.mono e1, r1, h1, fun y S3 v3 B3 H3 h3 e3 r3 d3 => ?_⟩
  have h4 : oI (fun i j => .int (g i j)) v' y S3 _ := h3
  clear h3
  unfold oI at h4
  split at h4
  · rename_i i j
    cases rd_int rw'
    cases rd_int d3
    obtain ⟨a2, dx2, fs2, e2, ha2, hl2, h4⟩ := h4
    cases e2
    obtain ⟨gs2, hg2, rg2⟩ := r3.ins ha2
    exact ⟨i, j, rfl, rfl, dx2, gs2, hg2, by rw [rdkv_len rg2]; exact hl2, l.nx δ _ σ B3 _ h4 (e1.trans e3) (s.mono (e1.trans e3)) (r3.mut ha2 (.ins (rdkv_put (.int _) rg2)))⟩
  · exact h4.elim
theorem de_meth {pl : Sem Bool} (hc : ClsD K C flds) (h : MDef X.prog X.w X.K X.mg X.base k C m ps (lSp K sp)) (hr : Room k X.A) (he : PE X o (lE K dO)) (ha : PA X (e :: es) (lA K da))
    (hst : starEach (e :: es) X.env = (false, eval e X.env) :: starEach es X.env := by rfl) (hpl : (backTo pos (starEach es X.env)).any (·.1) = false := by rfl)
    (ht : eval (.Call (.Attribute o m apos) (e :: es) [] pos) X.env = (do
      let ov ← eval o X.env
      standAt apos.atName
      let (f, first) ← holding [ov] (getMethod ov m pl)
      callWith pos f first (backTo pos (starEach (e :: es) X.env)) (backToKw pos (keywordEach [] X.env))) := by rfl) (hk : X.K = K := by rfl) :
    PE X (.Call (.Attribute o m apos) (e :: es) [] pos) (lE K (dMeth C m sp dO da)) := by
  subst hk
  obtain ⟨f, fd, F, hm, hb⟩ := h.ex
  refine peOf (pe_meth he hc.cl hm F hr hb .nil pass0 ha hst hpl ht) fun σ H Q ⟨B, δ, S, k, s, r, h, q⟩ => ⟨B, δ, S, _, s, r, h, fun x S1 v B1 H1 ⟨⟨a, dx, fs, hx, ha, hl⟩, h1⟩ e1 r1 d1 => ?_⟩
  subst hx
  obtain ⟨gs, hg, rg⟩ := r1.ins ha
  cases rd_ref d1
  refine ⟨a, dx, gs, rfl, hg, rdkv_none rg hl, B1, δ, S1, _, s.mono e1, r1, h1, fun xs S2 vs B2 H2 h2 e2 r2 d2 => ⟨B2, .ref a :: xs, S2, k, _, ?_, r2, h2, fun z S' u B' H' hk e' => q z S' u B' H' hk (e1.trans (e2.trans e')), fun _ _ _ _ _ z => z.elim⟩⟩
  rw [List.append_nil]
  exact .cons (.ref a) d2
theorem de_meth0 {pl : Sem Bool} (hc : ClsD K C flds) (h : MDef X.prog X.w X.K X.mg X.base k C m ps (lSp K sp)) (hr : Room k X.A) (he : PE X o (lE K dO))
    (ht : eval (.Call (.Attribute o m apos) [] [] pos) X.env = (do
      let ov ← eval o X.env
      standAt apos.atName
      let (f, first) ← holding [ov] (getMethod ov m pl)
      callWith pos f first (backTo pos (starEach [] X.env)) (backToKw pos (keywordEach [] X.env))) := by rfl) (hk : X.K = K := by rfl) :
    PE X (.Call (.Attribute o m apos) [] [] pos) (lE K (dMeth C m sp dO dNil)) := by
  subst hk
  obtain ⟨f, fd, F, hm, hb⟩ := h.ex
  refine peOf (pe_meth0 he hc.cl hm F hr hb .nil pass0 ht) fun σ H Q ⟨B, δ, S, k, s, r, h, q⟩ => ⟨B, δ, S, _, s, r, h, fun x S1 v B1 H1 ⟨⟨a, dx, fs, hx, ha, hl⟩, h1⟩ e1 r1 d1 => ?_⟩
  subst hx
  obtain ⟨gs, hg, rg⟩ := r1.ins ha
  cases rd_ref d1
  exact ⟨a, dx, gs, rfl, hg, rdkv_none rg hl, B1, [.ref a], S1, k, _, .one (.ref a), r1, h1, fun z S' u B' H' hk e' => q z S' u B' H' hk (e1.trans e'), fun _ _ _ _ _ z => z.elim⟩
theorem R.made {B H : Hp} {S : Sto} (r : R K B S H) {a dx : Addr} (h1 : H a = none) (h2 : H dx = none) (hn : dx ≠ a) : R K (upd B dx (.own a)) (put S a (.ins C dx [])) (upd (upd H dx (.own a)) a (.ins C dx [])) ∧ Ex B (upd B dx (.own a)) := by
  have n := r.new (o := .own a) h2
  exact ⟨n.1.newS (by rw [upd_ne hn.symm]; exact h1) (.ins .nil), n.2⟩
theorem de_make (h : MkDef X.prog X.w X.K X.mg X.base k x C ps (lSp K sp)) (hr : Room (k + 1) X.A) (hg : Gl X x) (ha : PA X (e :: es) (lA K da))
    (hdb : (x == ("__debug__" : Str)) = false := by decide) (he : starEach (e :: es) X.env = (false, eval e X.env) :: starEach es X.env := by rfl) (hpl : (backTo pos (starEach es X.env)).any (·.1) = false := by rfl) (hk : X.K = K := by rfl) :
    PE X (.Call (.Name x p) (e :: es) [] pos) (lE K (dMake C sp da)) := by
  subst hk
  obtain ⟨f, fd, M, F, hm, hb⟩ := h.ex
  refine peOf (pe_make M F hr hg hm hb .nil pass0 ha hdb he hpl) fun σ H Q ⟨B, δ, S, k, s, r, h, q⟩ => ⟨B, δ, S, _, s, r, h, fun xs S1 vs B1 H1 h1 e1 r1 d1 a dx na nd ne => ?_⟩
  have r2 := r1.made (C := C) na nd ne
  refine ⟨_, .ref a :: xs, _, _, _, ?_, r2.1, h1 a (r1.fresh na).2 dx, fun v S2 u B2 H2 ⟨hv, hk⟩ e2 r2' d2 => ?_, fun _ _ _ _ _ z => z.elim⟩
  · rw [List.append_nil]
    exact .cons (.ref a) (d1.mono r2.2)
  · subst hv
    exact ⟨rd_non d2, q _ S2 _ B2 H2 hk (e1.trans (r2.2.trans e2)) r2' (.ref a)⟩
end
section
variable {δ : Dst} {S : Sto} {k : DK} {E : DEnds} {dO dv de : DE} {da : DA} {C a dx : Addr} {f m : Str} {fs : List (Str × D)} {v y : D} {g : Int → Int → Int} {sp : SpD}
theorem x_fld : dFld C de f δ S k = de δ S fun x S1 => fldq C x f S1 k ⟨⟩ := propext Iff.rfl
theorem x_fldS : dFldS C dv dO f E δ S = dv δ S fun y S1 => dO δ S1 fun x S2 => fldsq C x f y S2 (fun S3 => E.nx δ S3) ⟨⟩ := propext Iff.rfl
theorem x_fldA : dFldA C g dv dO f E δ S = dO δ S fun x S1 => fldq C x f S1 (fun v S2 => dv δ S2 fun y S3 => st2 (oI fun i j => .int (g i j)) v y S3 (fun z S4 => fldsq C x f z S4 (fun S5 => E.nx δ S5) ⟨⟩) ⟨⟩) ⟨⟩ := propext Iff.rfl
theorem x_meth : dMeth C m sp dO da δ S k = dO δ S fun x S1 => need (∃ a dx fs, x = .ref a ∧ S1 a = some (.ins C dx fs) ∧ fs.lookup m = none) (da δ S1 fun xs S2 => ask sp (x :: xs) S2 k ⟨⟩) ⟨⟩ := propext Iff.rfl
theorem x_make : dMake C sp da δ S k = da δ S fun xs S1 => fresh S1 (fun a => ∀ dx, ask sp (.ref a :: xs) (put S1 a (.ins C dx [])) (fun v S2 => v = .non ∧ k (.ref a) S2) ⟨⟩) ⟨⟩ := propext Iff.rfl
theorem fldOf (h : S a = some (.ins C dx fs)) (hl : fs.lookup f = some v) (q : k v S) : fldq C (.ref a) f S k ⟨⟩ := ⟨a, dx, fs, v, rfl, h, hl, q⟩
theorem fldsOf {k : Sto → Prop} (h : S a = some (.ins C dx fs)) (hl : fs.length < 1000) (q : k (put S a (.ins C dx (putFD f y fs)))) : fldsq C (.ref a) f y S k ⟨⟩ := ⟨a, dx, fs, rfl, h, hl, q⟩
theorem methOf {x : D} (h : S a = some (.ins C dx fs)) (hl : fs.lookup m = none) : ∃ b dy gs, D.ref a = .ref b ∧ S b = some (.ins C dy gs) ∧ gs.lookup m = none := ⟨a, dx, fs, rfl, h, hl⟩
end
end DL

set_option Elab.async false
set_option linter.all false
set_option maxRecDepth 100000
/-! ### dicts of the store -/
namespace DL
open PySem L2 Evl EX
def keyD : D → Option Key
  | .int i => some (.inl i)
  | .str s => some (.inr s)
  | _ => none
def gval {β : Type} (kvs : List (Key × β)) (k : Key) : Option β := (kvs.find? fun kv => decide (kv.1 = k)).map (·.2)
def gput {β : Type} (kvs : List (Key × β)) (k : Key) (v : β) : List (Key × β) := if (kvs.any fun kv => decide (kv.1 = k)) = true then kvs.map (fun kv => if kv.1 = k then (kv.1, v) else kv) else kvs ++ [(k, v)]
def gdrop {β : Type} (kvs : List (Key × β)) (k : Key) : List (Key × β) := kvs.filter fun kv => decide (kv.1 ≠ k)
def dK (k : Key) : D := match k with
  | .inl i => .int i
  | .inr s => .str s
section
variable {K : PySem.W.Frag} {B : Hp}
theorem keyD_ok {v : V} {d : D} {k : Key} (h : keyD d = some k) (r : RdD K B v d) : v = kV k := by
  cases r <;> first | (cases h; rfl) | cases h
theorem rd_kV (k : Key) : RdD K B (kV k) (dK k) := by
  cases k with
  | inl i => exact .int i
  | inr s => exact .str s
theorem rdkv_val {k : Key} : ∀ {fs : List (Key × V)} {gs : List (Key × D)}, RdKV K B fs gs → match gval gs k with
    | some d => ∃ v, valV fs k = some v ∧ RdD K B v d
    | none => valV fs k = none
  | _, _, .nil => rfl
  | (a, v) :: fs, (b, e) :: gs, .cons h r => by
    have h1 : a = b := h.1
    subst h1
    have ih := rdkv_val (k := k) r
    by_cases q : a = k
    · have e1 : gval ((a, e) :: gs) k = some e := by simp [gval, List.find?_cons, q]
      rw [e1]
      exact ⟨v, by simp [valV, List.find?_cons, q], h.2⟩
    · have e1 : gval ((a, e) :: gs) k = gval gs k := by simp [gval, List.find?_cons, q]
      have e2 : valV ((a, v) :: fs) k = valV fs k := by simp [valV, List.find?_cons, q]
      rw [e1, e2]
      exact ih
theorem rdkv_some {k : Key} {fs : List (Key × V)} {gs : List (Key × D)} {d : D} (r : RdKV K B fs gs) (h : gval gs k = some d) : ∃ v, valV fs k = some v ∧ RdD K B v d := by
  have := rdkv_val (k := k) r
  rw [h] at this
  exact this
theorem rdkv_isSome {k : Key} {fs : List (Key × V)} {gs : List (Key × D)} (r : RdKV K B fs gs) : (valV fs k).isSome = (gval gs k).isSome := by
  have := rdkv_val (k := k) r
  cases h : gval gs k with
  | none => rw [h] at this; rw [this]; rfl
  | some d => rw [h] at this; obtain ⟨v, hv, _⟩ := this; rw [hv]; rfl
theorem rdkv_any {k : Key} : ∀ {fs : List (Key × V)} {gs : List (Key × D)}, RdKV K B fs gs → (fs.any fun kv => decide (kv.1 = k)) = (gs.any fun kv => decide (kv.1 = k))
  | _, _, .nil => rfl
  | (a, v) :: fs, (b, e) :: gs, .cons h r => by
    have h1 : a = b := h.1
    subst h1
    rw [List.any_cons, List.any_cons, rdkv_any r]
theorem rdkv_map {k : Key} {v : V} {d : D} (hv : RdD K B v d) : ∀ {fs : List (Key × V)} {gs : List (Key × D)}, RdKV K B fs gs → RdKV K B (fs.map fun kv => if kv.1 = k then (kv.1, v) else kv) (gs.map fun kv => if kv.1 = k then (kv.1, d) else kv)
  | _, _, .nil => .nil
  | (a, w) :: fs, (b, e) :: gs, .cons h r => by
    have h1 : a = b := h.1
    subst h1
    rw [List.map_cons, List.map_cons]
    refine .cons ?_ (rdkv_map hv r)
    show (if a = k then (a, v) else (a, w)).1 = (if a = k then (a, d) else (a, e)).1 ∧ RdD K B (if a = k then (a, v) else (a, w)).2 (if a = k then (a, d) else (a, e)).2
    by_cases q : a = k
    · rw [if_pos q, if_pos q]
      exact ⟨rfl, hv⟩
    · rw [if_neg q, if_neg q]
      exact ⟨rfl, h.2⟩
theorem rdkv_app : ∀ {fs fs' : List (Key × V)} {gs gs' : List (Key × D)}, RdKV K B fs gs → RdKV K B fs' gs' → RdKV K B (fs ++ fs') (gs ++ gs')
  | _, _, _, _, .nil, s => s
  | _, _, _, _, .cons h r, s => .cons h (rdkv_app r s)
theorem rdkv_gput {k : Key} {v : V} {d : D} (hv : RdD K B v d) {fs : List (Key × V)} {gs : List (Key × D)} (r : RdKV K B fs gs) : RdKV K B (putK fs k v) (gput gs k d) := by
  unfold putK gput
  rw [rdkv_any r]
  split
  · exact rdkv_map hv r
  · exact rdkv_app r (.cons ⟨rfl, hv⟩ .nil)
theorem rdkv_drop {k : Key} : ∀ {fs : List (Key × V)} {gs : List (Key × D)}, RdKV K B fs gs → RdKV K B (dropK fs k) (gdrop gs k)
  | _, _, .nil => .nil
  | (a, w) :: fs, (b, e) :: gs, .cons h r => by
    have h1 : a = b := h.1
    subst h1
    unfold dropK gdrop
    rw [List.filter_cons, List.filter_cons]
    by_cases q : a = k
    · simp only [q, ne_eq, not_true_eq_false, decide_false, Bool.false_eq_true, if_false]
      exact rdkv_drop r
    · simp only [q, ne_eq, not_false_eq_true, decide_true, if_true]
      exact .cons h (rdkv_drop r)
theorem rdkv_keys : ∀ {fs : List (Key × V)} {gs : List (Key × D)}, RdKV K B fs gs → fs.map (·.1) = gs.map (·.1)
  | _, _, .nil => rfl
  | (a, w) :: fs, (b, e) :: gs, .cons h r => by
    have h1 : a = b := h.1
    subst h1
    rw [List.map_cons, List.map_cons, rdkv_keys r]
theorem rdl_keys : ∀ ks : List Key, RdL K B (ks.map kV) (ks.map dK)
  | [] => .nil
  | k :: ks => .cons (rd_kV k) (rdl_keys ks)
end
def dgetq (x y : D) (S : Sto) (k : DK) (_ : Tag k) : Prop := ∃ a kvs key v, x = .ref a ∧ DctAt S a kvs ∧ keyD y = some key ∧ gval kvs key = some v ∧ k v S
def dDGet (dd dk : DE) : DE := fun δ S k => dd δ S fun x S1 => dk δ S1 fun y S2 => dgetq x y S2 k ⟨⟩
def dinq (neg : Bool) (y x : D) (S : Sto) (k : DK) (_ : Tag k) : Prop := ∃ a kvs key, x = .ref a ∧ DctAt S a kvs ∧ keyD y = some key ∧ k (.bl (if neg then !(gval kvs key).isSome else (gval kvs key).isSome)) S
def dDIn (neg : Bool) (dk dd : DE) : DE := fun δ S k => dk δ S fun y S1 => dd δ S1 fun x S2 => dinq neg y x S2 k ⟨⟩
def isDq (x : D) (S : Sto) (A : Prop) (_ : Tag A) : Prop := (∃ a kvs, x = .ref a ∧ DctAt S a kvs) ∧ A
def dgorq (x y : D) (z : D) (S : Sto) (k : DK) (_ : Tag k) : Prop := ∃ a kvs key, x = .ref a ∧ DctAt S a kvs ∧ keyD y = some key ∧ k ((gval kvs key).getD z) S
def dDGet1 (dd dk : DE) : DE := fun δ S k => dd δ S fun x S1 => isDq x S1 (dk δ S1 fun y S2 => dgorq x y .non S2 k ⟨⟩) ⟨⟩
def dDGet2 (dd dk dz : DE) : DE := fun δ S k => dd δ S fun x S1 => isDq x S1 (dk δ S1 fun y S2 => dz δ S2 fun z S3 => dgorq x y z S3 k ⟨⟩) ⟨⟩
def dpopq (x y : D) (S : Sto) (k : DK) (_ : Tag k) : Prop := ∃ a kvs key v, x = .ref a ∧ S a = some (.dct kvs) ∧ keyD y = some key ∧ gval kvs key = some v ∧ k v (put S a (.dct (gdrop kvs key)))
def dDPop (dd dk : DE) : DE := fun δ S k => dd δ S fun x S1 => isDq x S1 (dk δ S1 fun y S2 => dpopq x y S2 k ⟨⟩) ⟨⟩
def dputq (x y v : D) (S : Sto) (k : Sto → Prop) (_ : Tag k) : Prop := ∃ a kvs key, x = .ref a ∧ S a = some (.dct kvs) ∧ keyD y = some key ∧ kvs.length < 100000 ∧ k (put S a (.dct (gput kvs key v)))
def dDPut (dd dk dv : DE) : DS := fun E δ S => dv δ S fun v S1 => dd δ S1 fun x S2 => dk δ S2 fun y S3 => dputq x y v S3 (fun S4 => E.nx δ S4) ⟨⟩
section
variable {X : Cx} {K : PySem.W.Frag} {W : WXD} {o i e f value : Expr} {dd dk dv dz : DE} {pos pos' apos cpos : Pos}
theorem de_dget (hu : X.A.units + 1 < cLine) (ho : PE X o (lE K dd)) (hi : PE X i (lE K dk)) (hs : NoSl i) : PE X (.Subscript o i pos) (lE K (dDGet dd dk)) := peOf (pe_dget hu ho hi hs) fun σ H Q ⟨B, δ, S, k, s, r, h, q⟩ =>
  ⟨B, δ, S, _, s, r, h, fun x S1 v B1 H1 h1 e1 r1 d1 => ⟨B1, δ, S1, _, s.mono e1, r1, h1, fun y S2 w B2 H2 h2 e2 r2 d2 => by
    obtain ⟨a, kvs, key, z, rfl, ha, hk, hv, h2⟩ := h2
    obtain ⟨gs, hg, rg⟩ := r2.dctR ha
    obtain ⟨u, hu, ru⟩ := rdkv_some rg hv
    cases rd_ref d1
    cases keyD_ok hk d2
    exact ⟨a, u, rfl, .inl ⟨gs, key, hg, rfl, hu.symm⟩, q _ S2 _ B2 H2 h2 (e1.trans e2) r2 ru⟩⟩⟩
theorem pc_dinD {neg : Bool} (hu : X.A.units + 1 < cLine) (hi : PE X i (lE K dk)) (ho : PE X o (lE K dd)) : PC X .In i o (lE K (dDIn false dk dd)) := by
  obtain ⟨r⟩ := pc_din hu hi ho
  refine ⟨fun pins s σ H Q I ⟨B, δ, S, k, sl, rr, h, q⟩ => r pins s σ H Q I ⟨B, δ, S, _, sl, rr, h, fun y S1 w B1 H1 h1 e1 r1 d1 => ⟨B1, δ, S1, _, sl.mono e1, r1, h1, fun x S2 v B2 H2 h2 e2 r2 d2 => ?_⟩⟩⟩
  obtain ⟨a, kvs, key, rfl, ha, hk, h2⟩ := h2
  obtain ⟨gs, hg, rg⟩ := r2.dctR ha
  cases rd_ref d2
  cases keyD_ok hk d1
  exact ⟨a, _, rfl, .inl ⟨gs, key, hg, rfl, rfl⟩, by rw [rdkv_isSome rg]; exact q _ S2 _ B2 H2 h2 (e1.trans e2) r2 (.bl _)⟩
theorem pc_dninD {neg : Bool} (hu : X.A.units + 1 < cLine) (hi : PE X i (lE K dk)) (ho : PE X o (lE K dd)) : PC X .NotIn i o (lE K (dDIn true dk dd)) := by
  obtain ⟨r⟩ := pc_dnotin hu hi ho
  refine ⟨fun pins s σ H Q I ⟨B, δ, S, k, sl, rr, h, q⟩ => r pins s σ H Q I ⟨B, δ, S, _, sl, rr, h, fun y S1 w B1 H1 h1 e1 r1 d1 => ⟨B1, δ, S1, _, sl.mono e1, r1, h1, fun x S2 v B2 H2 h2 e2 r2 d2 => ?_⟩⟩⟩
  obtain ⟨a, kvs, key, rfl, ha, hk, h2⟩ := h2
  obtain ⟨gs, hg, rg⟩ := r2.dctR ha
  cases rd_ref d2
  cases keyD_ok hk d1
  exact ⟨a, _, rfl, .inl ⟨gs, key, hg, rfl, rfl⟩, by rw [rdkv_isSome rg]; exact q _ S2 _ B2 H2 h2 (e1.trans e2) r2 (.bl _)⟩
theorem de_din (hu : X.A.units + 1 < cLine) (hi : PE X i (lE K dk)) (ho : PE X o (lE K dd)) (hm : behindInMarks .In o = false := by rfl) : PE X (.Compare i [.In] [o] pos) (lE K (dDIn false dk dd)) := pe_cmp (pc_dinD (neg := false) hu hi ho) hm
theorem dt_din (hu : X.A.units + 1 < cLine) (hi : PE X i (lE K dk)) (ho : PE X o (lE K dd)) (hm : behindInMarks .In o = false := by rfl) : PT X (.Compare i [.In] [o] pos) (lT K (dTest (dDIn false dk dd))) := ptOf (pt_cmp (pc_dinD (neg := false) hu hi ho) hm) l_test
theorem dt_dinN (hu : X.A.units + 1 < cLine) (hi : PE X i (lE K dk)) (ho : PE X o (lE K dd)) (hm : behindInMarks .NotIn o = false := by rfl) : PT X (.Compare i [.NotIn] [o] pos) (lT K (dTest (dDIn true dk dd))) := ptOf (pt_cmp (pc_dninD (neg := true) hu hi ho) hm) l_test
theorem isD_ok {B H : Hp} {S : Sto} {x : D} {v : V} (h : ∃ a kvs, x = .ref a ∧ DctAt S a kvs) (r : R K B S H) (rx : RdD K B v x) : ∃ a, v = .ref a ∧ IsD H a := by
  obtain ⟨a, kvs, rfl, ha⟩ := h
  obtain ⟨gs, hg, _⟩ := r.dctR ha
  exact ⟨a, rd_ref rx, .inl ⟨gs, hg⟩⟩
theorem getD_ok {B : Hp} {gs : List (Key × V)} {kvs : List (Key × D)} {key : Key} {z : D} {w : V} (rg : RdKV K B gs kvs) (hz : RdD K B w z) : RdD K B ((valV gs key).getD w) ((gval kvs key).getD z) := by
  have := rdkv_val (k := key) rg
  cases h : gval kvs key with
  | none => rw [h] at this; rw [this]; exact hz
  | some d => rw [h] at this; obtain ⟨v, hv, rv⟩ := this; rw [hv]; exact rv
theorem de_dgets1 (hu : X.A.units + 1 < cLine) (ho : PE X o (lE K dd)) (he : PE X e (lE K dk)) (m : M1 X o "get" apos e cpos := by exact ⟨rfl, rfl, rfl, rfl⟩) : PE X (.Call (.Attribute o "get" apos) [e] [] cpos) (lE K (dDGet1 dd dk)) := peOf (pe_dget1 hu ho he m) fun σ H Q ⟨B, δ, S, k, s, r, h, q⟩ =>
  ⟨B, δ, S, _, s, r, h, fun x S1 v B1 H1 ⟨hd, h1⟩ e1 r1 d1 => by
    obtain ⟨a0, rfl, hI⟩ := isD_ok hd r1 d1
    refine ⟨a0, rfl, hI, B1, δ, S1, _, s.mono e1, r1, h1, fun y S2 w B2 H2 h2 e2 r2 d2 => ?_⟩
    obtain ⟨a, kvs, key, rfl, ha, hk, h2⟩ := h2
    obtain ⟨gs, hg, rg⟩ := r2.dctR ha
    cases rd_ref d1
    cases keyD_ok hk d2
    exact ⟨_, .inl ⟨gs, key, hg, rfl, rfl⟩, q _ S2 _ B2 H2 h2 (e1.trans e2) r2 (getD_ok rg .non)⟩⟩
theorem de_dgets2 (hu : X.A.units + 1 < cLine) (ho : PE X o (lE K dd)) (he : PE X e (lE K dk)) (hf : PE X f (lE K dz)) (m : M2 X o "get" apos e f cpos := by exact ⟨rfl, rfl, rfl, rfl⟩) : PE X (.Call (.Attribute o "get" apos) [e, f] [] cpos) (lE K (dDGet2 dd dk dz)) := peOf (pe_dget2 hu ho he hf m) fun σ H Q ⟨B, δ, S, k, s, r, h, q⟩ =>
  ⟨B, δ, S, _, s, r, h, fun x S1 v B1 H1 ⟨hd, h1⟩ e1 r1 d1 => by
    obtain ⟨a0, rfl, hI⟩ := isD_ok hd r1 d1
    refine ⟨a0, rfl, hI, B1, δ, S1, _, s.mono e1, r1, h1, fun y S2 w B2 H2 h2 e2 r2 d2 => ⟨B2, δ, S2, _, s.mono (e1.trans e2), r2, h2, fun z S3 u B3 H3 h3 e3 r3 d3 => ?_⟩⟩
    obtain ⟨a, kvs, key, rfl, ha, hk, h3⟩ := h3
    obtain ⟨gs, hg, rg⟩ := r3.dctR ha
    cases rd_ref d1
    cases keyD_ok hk d2
    exact ⟨_, .inl ⟨gs, key, hg, rfl, rfl⟩, q _ S3 _ B3 H3 h3 (e1.trans (e2.trans e3)) r3 (getD_ok rg d3)⟩⟩
theorem de_dpop (ho : PE X o (lE K dd)) (he : PE X e (lE K dk)) (m : M1 X o "pop" apos e cpos := by exact ⟨rfl, rfl, rfl, rfl⟩) : PE X (.Call (.Attribute o "pop" apos) [e] [] cpos) (lE K (dDPop dd dk)) := peOf (pe_dpop1 ho he m) fun σ H Q ⟨B, δ, S, k, s, r, h, q⟩ =>
  ⟨B, δ, S, _, s, r, h, fun x S1 v B1 H1 ⟨hd, h1⟩ e1 r1 d1 => by
    obtain ⟨a0, rfl, hI⟩ := isD_ok hd r1 d1
    refine ⟨a0, rfl, hI, B1, δ, S1, _, s.mono e1, r1, h1, fun y S2 w B2 H2 h2 e2 r2 d2 => ?_⟩
    obtain ⟨a, kvs, key, z, rfl, ha, hk, hv, h2⟩ := h2
    obtain ⟨gs, hg, rg⟩ := r2.dct ha
    obtain ⟨u, hu, ru⟩ := rdkv_some rg hv
    cases rd_ref d1
    cases keyD_ok hk d2
    exact ⟨gs, key, u, hg, rfl, hu, q _ _ _ B2 _ h2 (e1.trans e2) (r2.mut ha (.dct (rdkv_drop rg))) ru⟩⟩
theorem ds_dput (hu : X.A.units + 1 < cLine) (ho : PE X o (lE K dd)) (hi : PE X i (lE K dk)) (hv : PE X value (lE K dv)) (hs : swapsWith value (some (.Subscript o i pos')) pos.line X.env = pure false := by rfl) : PS X (.Assign [.Subscript o i pos'] value pos) (lS K W (dDPut dd dk dv)) := psOf (ps_dput hu ho hi hv hs) fun E σ H ⟨B, δ, S, D, s, r, h, l⟩ =>
  ⟨B, δ, S, _, s, r, h, fun v S1 w B1 H1 h1 e1 r1 d1 => ⟨B1, δ, S1, _, s.mono e1, r1, h1, fun x S2 u B2 H2 h2 e2 r2 d2 => ⟨B2, δ, S2, _, s.mono (e1.trans e2), r2, h2, fun y S3 z B3 H3 h3 e3 r3 d3 => by
    obtain ⟨a, kvs, key, rfl, ha, hk, hl, h3⟩ := h3
    obtain ⟨gs, hg, rg⟩ := r3.dct ha
    cases rd_ref d2
    cases keyD_ok hk d3
    exact ⟨a, _, rfl, .inl ⟨gs, key, hg, rfl, sz_lt (by rw [rdkv_len rg]; exact hl), rfl⟩, l.nx δ _ σ B3 _ h3 (e1.trans (e2.trans e3)) (s.mono (e1.trans (e2.trans e3))) (r3.mut ha (.dct (rdkv_gput (d1.mono (e2.trans e3)) rg)))⟩⟩⟩⟩
end
section
variable {K : PySem.W.Frag}
/-- list(d): its keys; sorted(d) of numbers -/
def oListD : List D → Sto → DK → Prop := fun xs S k => match xs with
  | [.ref a] => ∃ kvs, DctAt S a kvs ∧ k (.list (kvs.map fun kv => dK kv.1)) S
  | _ => False
theorem si_listD : SimC K (fun xs H Q => ∃ (a : Addr) (kvs : List (Key × V)), xs = [.ref a] ∧ Rd H a (.dK kvs) ∧ ∀ p, H p = none → Q (.ref p) (upd H p (.lst (kvs.map fun kv => kV kv.1)))) oListD := fun B S H vs xs k Q r rx h1 q => by
  unfold oListD at h1
  split at h1
  · obtain ⟨v, rfl, rv⟩ := rdl1 rx
    cases rd_ref rv
    obtain ⟨kvs, hs, h1⟩ := h1
    obtain ⟨gs, hg, rg⟩ := r.dctR hs
    refine ⟨_, gs, rfl, hg, fun p hp => ?_⟩
    have n := r.new (o := .lst (gs.map fun kv => kV kv.1)) hp
    refine q _ S _ _ _ h1 n.2 n.1 (.lst upd_same ?_)
    have e1 : (gs.map fun kv => kV kv.1) = (gs.map (·.1)).map kV := by rw [List.map_map]; rfl
    have e2 : (kvs.map fun kv => dK kv.1) = (kvs.map (·.1)).map dK := by rw [List.map_map]; rfl
    rw [e1, e2, rdkv_keys rg]
    exact rdl_keys _
  · exact h1.elim
def oSortDI : List D → Sto → DK → Prop := fun xs S k => match xs with
  | [.ref a] => ∃ (kvs : List (Key × D)) (ks : List Int), S a = some (.dct kvs) ∧ kvs.map (·.1) = ks.map Sum.inl ∧ ks.length < 64 ∧ ∀ ys : List Int, ys.Perm ks → ys.Pairwise (· ≤ ·) → k (.list (ys.map D.int)) S
  | _ => False
end
section
variable {δ : Dst} {S : Sto} {k : DK} {E : DEnds} {dd dk dv dz : DE} {a : Addr} {kvs : List (Key × D)} {key : Key} {x y v z : D} {xs : List D}
theorem x_dget : dDGet dd dk δ S k = dd δ S fun x S1 => dk δ S1 fun y S2 => dgetq x y S2 k ⟨⟩ := propext Iff.rfl
theorem x_din {neg : Bool} : dDIn neg dk dd δ S k = dk δ S fun y S1 => dd δ S1 fun x S2 => dinq neg y x S2 k ⟨⟩ := propext Iff.rfl
theorem x_dget1 : dDGet1 dd dk δ S k = dd δ S fun x S1 => isDq x S1 (dk δ S1 fun y S2 => dgorq x y .non S2 k ⟨⟩) ⟨⟩ := propext Iff.rfl
theorem x_dget2 : dDGet2 dd dk dz δ S k = dd δ S fun x S1 => isDq x S1 (dk δ S1 fun y S2 => dz δ S2 fun z S3 => dgorq x y z S3 k ⟨⟩) ⟨⟩ := propext Iff.rfl
theorem x_dpop : dDPop dd dk δ S k = dd δ S fun x S1 => isDq x S1 (dk δ S1 fun y S2 => dpopq x y S2 k ⟨⟩) ⟨⟩ := propext Iff.rfl
theorem x_dput : dDPut dd dk dv E δ S = dv δ S fun v S1 => dd δ S1 fun x S2 => dk δ S2 fun y S3 => dputq x y v S3 (fun S4 => E.nx δ S4) ⟨⟩ := propext Iff.rfl
theorem x_listD : oListD xs S k = stC oListD xs S k ⟨⟩ := propext Iff.rfl
theorem x_sortDI : oSortDI xs S k = stC oSortDI xs S k ⟨⟩ := propext Iff.rfl
theorem x_lenD : oLenD xs S k = stC oLenD xs S k ⟨⟩ := propext Iff.rfl
theorem dgetOf (h : S a = some (.dct kvs)) (hk : keyD y = some key) (hv : gval kvs key = some v) (q : k v S) : dgetq (.ref a) y S k ⟨⟩ := ⟨a, kvs, key, v, rfl, .inl h, hk, hv, q⟩
theorem dgetOfR (h : DctAt S a kvs) (hk : keyD y = some key) (hv : gval kvs key = some v) (q : k v S) : dgetq (.ref a) y S k ⟨⟩ := ⟨a, kvs, key, v, rfl, h, hk, hv, q⟩
theorem dinOf (h : S a = some (.dct kvs)) (hk : keyD y = some key) (q : k (.bl (gval kvs key).isSome) S) : dinq false y (.ref a) S k ⟨⟩ := ⟨a, kvs, key, rfl, .inl h, hk, q⟩
theorem dninOf (h : S a = some (.dct kvs)) (hk : keyD y = some key) (q : k (.bl (!(gval kvs key).isSome)) S) : dinq true y (.ref a) S k ⟨⟩ := ⟨a, kvs, key, rfl, .inl h, hk, q⟩
theorem isDOf {A : Prop} (h : S a = some (.dct kvs)) (q : A) : isDq (.ref a) S A ⟨⟩ := ⟨⟨a, kvs, rfl, .inl h⟩, q⟩
theorem dgorOf (h : S a = some (.dct kvs)) (hk : keyD y = some key) (q : k ((gval kvs key).getD z) S) : dgorq (.ref a) y z S k ⟨⟩ := ⟨a, kvs, key, rfl, .inl h, hk, q⟩
theorem dpopOf (h : S a = some (.dct kvs)) (hk : keyD y = some key) (hv : gval kvs key = some v) (q : k v (put S a (.dct (gdrop kvs key)))) : dpopq (.ref a) y S k ⟨⟩ := ⟨a, kvs, key, v, rfl, h, hk, hv, q⟩
theorem dputOf {k : Sto → Prop} (h : S a = some (.dct kvs)) (hk : keyD y = some key) (hl : kvs.length < 100000) (q : k (put S a (.dct (gput kvs key v)))) : dputq (.ref a) y v S k ⟨⟩ := ⟨a, kvs, key, rfl, h, hk, hl, q⟩
theorem listDOf (h : S a = some (.dct kvs)) (q : k (.list (kvs.map fun kv => dK kv.1)) S) : stC oListD [.ref a] S k ⟨⟩ := ⟨kvs, .inl h, q⟩
theorem gput_new {β : Type} {kvs : List (Key × β)} {v : β} (h : gval kvs key = none) : gput kvs key v = kvs ++ [(key, v)] := by
  unfold gput
  rw [if_neg]
  intro z
  unfold gval at h
  rw [Option.map_eq_none_iff, List.find?_eq_none] at h
  rw [List.any_eq_true] at z
  obtain ⟨p, hp, hq⟩ := z
  exact h p hp hq
end
end DL

set_option Elab.async false
set_option linter.all false
set_option maxRecDepth 100000
/-! ### isinstance beside a class of the program's own -/
namespace DL
open PySem L2 Evl EX
structure IsiC (K : PySem.W.Frag) (C : Addr) : Prop where
  cl : Cls K C
  ha : PySem.W.findIn K (.ref C) "__class__" = some (some (.builtin "object.__class__"))
  hn : PySem.W.specialIn K (.builtin "object.__class__") "__get__" = some (some (.builtin "getset_descriptor.__get__"))
  htk : PySem.W.takesIn K (.builtin "object.__class__") = some true
  hm : PySem.W.mroIn K C (.type "object") = some true
  t1 : PySem.W.kitOne K (.ref C) (.type "bool") = some false
  t2 : PySem.W.kitOne K (.ref C) (.type "int") = some false
  t3 : PySem.W.kitOne K (.ref C) (.type "str") = some false
  f1 : PySem.W.kitOne K (.type "NoneType") (.ref C) = some false
  f2 : PySem.W.kitOne K (.type "bool") (.ref C) = some false
  f3 : PySem.W.kitOne K (.type "int") (.ref C) = some false
  f4 : PySem.W.kitOne K (.type "str") (.ref C) = some false
inductive IsAns (C : Addr) (S : Sto) : D → D → Bool → Prop where
  | ty {x : D} {t c : String} : tyD S x = some t → c ∈ Cs → IsAns C S x (.ty c) (isB t c)
  | ins {a dx : Addr} {fs : List (Str × D)} {c : String} : S a = some (.ins C dx fs) → c = "bool" ∨ c = "int" ∨ c = "str" → IsAns C S (.ref a) (.ty c) false
  | own {a dx : Addr} {fs : List (Str × D)} : S a = some (.ins C dx fs) → IsAns C S (.ref a) (.ref C) true
  | non : IsAns C S .non (.ref C) false
  | bl (b : Bool) : IsAns C S (.bl b) (.ref C) false
  | int (i : Int) : IsAns C S (.int i) (.ref C) false
  | str (s : Str) : IsAns C S (.str s) (.ref C) false
def oIsiC (C : Addr) : List D → Sto → DK → Prop := fun xs S k => match xs with
  | [x, y] => ∃ b, IsAns C S x y b ∧ k (.bl b) S
  | _ => False
theorem ty_ins {S : Sto} {a C dx : Addr} {fs : List (Str × D)} (h : S a = some (.ins C dx fs)) : tyD S (.ref a) = none := by simp only [tyD, h]
theorem IsAns.uni {C : Addr} {S : Sto} {x y : D} {b c : Bool} (h : IsAns C S x y b) (h2 : IsAns C S x y c) : b = c := by
  cases h with
  | ty h1 hc =>
    cases h2 with
    | ty h2 _ => rw [h1] at h2; cases h2; rfl
    | ins h2 _ => rw [ty_ins h2] at h1; cases h1
  | ins h1 _ => cases h2 with
    | ty h2 _ => rw [ty_ins h1] at h2; cases h2
    | ins h2 _ => rfl
  | own h1 => cases h2; rfl
  | non => cases h2; rfl
  | bl b => cases h2; rfl
  | int b => cases h2; rfl
  | str b => cases h2; rfl
section
variable {K : PySem.W.Frag} {C : Addr}
theorem kit_self (a : Addr) : PySem.W.kitOne K (.ref a) (.ref a) = some true := by
  unfold PySem.W.kitOne
  rw [if_pos (by simp)]
theorem si_isiC (hC : IsiC K C) : SimC K (rIsi K) (oIsiC C) := fun B S H vs xs k Q r rx h1 q => by
  unfold oIsiC at h1
  split at h1
  · rename_i x y
    obtain ⟨v, w, rfl, rv, rw'⟩ := rdl2 rx
    obtain ⟨b, hb, h1⟩ := h1
    have ans := q (.bl b) S (.bl b) B H h1 (Ex.refl B) r (.bl b)
    have tyi : ∀ {a dx fs}, S a = some (.ins C dx fs) → TyX K H (.ref a) (.ref C) := fun {a dx fs} h => by
      obtain ⟨gs, hg, _⟩ := r.ins h
      exact .base (.ins hg hC.cl hC.ha hC.hn hC.htk hC.hm)
    cases hb with
    | @ty x t c ht hc =>
      have hw : w = .ty c := by cases rw'; rfl
      subst hw
      exact ⟨v, .ty c, .type t, .type c, isB t c, rfl, .ty c, tyD_ok ht r rv, kit_ty (isB_ok t (tyD_mem ht) c hc), ans⟩
    | @ins a dx fs c h hc =>
      cases rd_ref rv
      have hw : w = .ty c := by cases rw'; rfl
      subst hw
      refine ⟨_, _, .ref C, .type c, false, rfl, .ty c, tyi h, ?_, ans⟩
      rcases hc with rfl | rfl | rfl
      · exact hC.t1
      · exact hC.t2
      · exact hC.t3
    | own h =>
      cases rd_ref rv
      cases rd_ref rw'
      exact ⟨_, _, .ref C, .ref C, true, rfl, .own C, tyi h, kit_self C, ans⟩
    | non =>
      cases rd_non rv
      cases rd_ref rw'
      exact ⟨_, _, .type "NoneType", .ref C, false, rfl, .own C, .base .non, hC.f1, ans⟩
    | bl b =>
      have : v = .bl b := by cases rv; rfl
      subst this
      cases rd_ref rw'
      exact ⟨_, _, .type "bool", .ref C, false, rfl, .own C, .base (.bl b), hC.f2, ans⟩
    | int i =>
      cases rd_int rv
      cases rd_ref rw'
      exact ⟨_, _, .type "int", .ref C, false, rfl, .own C, .base (.int i), hC.f3, ans⟩
    | str i =>
      cases rd_str rv
      cases rd_ref rw'
      exact ⟨_, _, .type "str", .ref C, false, rfl, .own C, .base (.str i), hC.f4, ans⟩
  · exact h1.elim
end
section
variable {C a dx : Addr} {S : Sto} {k : DK} {fs : List (Str × D)} {x y : D} {b : Bool}
theorem x_isiC {xs : List D} : oIsiC C xs S k = stC (oIsiC C) xs S k ⟨⟩ := propext Iff.rfl
theorem isiC_of (h : IsAns C S x y b) : stC (oIsiC C) [x, y] S k ⟨⟩ = k (.bl b) S := propext ⟨fun ⟨c, hc, q⟩ => by rw [h.uni hc]; exact q, fun q => ⟨b, h, q⟩⟩
theorem x_icS {s : Str} {c : String} (hc : c ∈ Cs) : stC (oIsiC C) [.str s, .ty c] S k ⟨⟩ = k (.bl (isB "str" c)) S := isiC_of (.ty rfl hc)
theorem x_icI {s : Int} {c : String} (hc : c ∈ Cs) : stC (oIsiC C) [.int s, .ty c] S k ⟨⟩ = k (.bl (isB "int" c)) S := isiC_of (.ty rfl hc)
theorem x_icB {s : Bool} {c : String} (hc : c ∈ Cs) : stC (oIsiC C) [.bl s, .ty c] S k ⟨⟩ = k (.bl (isB "bool" c)) S := isiC_of (.ty rfl hc)
theorem x_icN {c : String} (hc : c ∈ Cs) : stC (oIsiC C) [.non, .ty c] S k ⟨⟩ = k (.bl (isB "NoneType" c)) S := isiC_of (.ty rfl hc)
theorem x_ioS {s : Str} : stC (oIsiC C) [.str s, .ref C] S k ⟨⟩ = k (.bl false) S := isiC_of (.str s)
theorem x_ioI {s : Int} : stC (oIsiC C) [.int s, .ref C] S k ⟨⟩ = k (.bl false) S := isiC_of (.int s)
theorem x_ioB {s : Bool} : stC (oIsiC C) [.bl s, .ref C] S k ⟨⟩ = k (.bl false) S := isiC_of (.bl s)
theorem x_ioN : stC (oIsiC C) [.non, .ref C] S k ⟨⟩ = k (.bl false) S := isiC_of .non
theorem x_own (h : S a = some (.ins C dx fs)) : stC (oIsiC C) [.ref a, .ref C] S k ⟨⟩ = k (.bl true) S := isiC_of (.own h)
end
end DL

set_option Elab.async false
set_option linter.all false
set_option maxRecDepth 100000
/-! ### texts as lists of signs; the figures of numbers -/
namespace DL
open PySem L2 Evl EX
theorem nF_nil {K : PySem.W.Frag} {C : Addr} : ∀ f ∈ ([] : List Str), NoAttr K C f := fun _ z => nomatch z
theorem nF_cons {K : PySem.W.Frag} {C : Addr} {f : Str} {fs : List Str} (h : PySem.W.findIn K (.ref C) f = some none) (r : ∀ g ∈ fs, NoAttr K C g) : ∀ g ∈ f :: fs, NoAttr K C g := fun g hg => by
  rcases List.mem_cons.mp hg with rfl | hg
  · exact h
  · exact r g hg
theorem ixMem {S : Sto} {k : DK} {ds : List D} {i : Int} {m : Nat} (h : ds.length = m) (h0 : 0 ≤ i) (h1 : i < m) (q : ∀ d ∈ ds, k d S) : ixq (.list ds) i S k ⟨⟩ := by
  obtain ⟨j, rfl⟩ := Int.eq_ofNat_of_zero_le h0
  have hj : j < ds.length := by omega
  exact ixAt (.inl rfl) (List.getElem?_eq_getElem hj) (q _ (List.getElem_mem hj))
end DL

set_option Elab.async false
set_option linter.all false
set_option maxRecDepth 100000
/-! ### == beside an instance of a class without an __eq__ of its own -/
namespace OE
open PySem PySem.Spec PyProof.Rows PySem.SeqAt
open AutoSeq1 (wpAny_loadPart')
section
variable {prog : Program} {w : World} {M : Model} {A : Around} {E : Value → Shared → Prop} {s : Shared} {K : PySem.W.Frag} {x y C D dx : Addr} {ox oy : Obj} {od oe : Option Obj} {u : Value} {T : String}
/-! two instances of one class -/
end
end OE

set_option Elab.async false
set_option linter.all false
set_option maxRecDepth 100000
/-! ### == beside instances; in lists of mixed data; is False; a list put together that changes -/
namespace DL
open PySem L2 Evl EX
/-! data of any kinds -/
mutual
def D.any : D → Bool
  | .non => true
  | .int _ => true
  | .bl _ => true
  | .str x => PyData.strOk x
  | .list ds => anyL ds
  | .tup ds => anyL ds
  | _ => false
def anyL : List D → Bool
  | [] => true
  | d :: ds => d.any && anyL ds
end
mutual
theorem pyA_lay : ∀ d : D, d.any = true → d.py.canLay0 = true
  | .non, _ => rfl
  | .int _, _ => rfl
  | .str x, h => by simpa [D.any, D.py, PyData.canLay0] using h
  | .list ds, h => by
    rw [D.any] at h
    rw [D.py, PyData.canLay0]
    exact pyLA_lay ds h
  | .tup ds, h => by
    rw [D.any] at h
    rw [D.py, PyData.canLay0]
    exact pyLA_lay ds h
  | .bl _, h => rfl
  | .ref _, h => by cases h
  | .ty _, h => by cases h
  | .scr _, h => by simp [D.any] at h
theorem pyLA_lay : ∀ ds : List D, anyL ds = true → PyData.canLayAll0 (pyL ds) = true
  | [], _ => rfl
  | d :: ds, h => by
    rw [anyL, Bool.and_eq_true] at h
    rw [pyL, PyData.canLayAll0, pyA_lay d h.1, pyLA_lay ds h.2]
    rfl
end
mutual
theorem pyA_deep : ∀ d : D, d.any = true → d.py.depth = d.deep
  | .non, _ => rfl
  | .int _, _ => rfl
  | .str x, h => rfl
  | .list ds, h => by
    rw [D.any] at h
    rw [D.py, PyData.depth, D.deep, pyLA_deep ds h]
  | .tup ds, h => by
    rw [D.any] at h
    rw [D.py, PyData.depth, D.deep, pyLA_deep ds h]
  | .bl _, h => rfl
  | .ref _, h => by cases h
  | .ty _, h => by cases h
  | .scr _, h => by simp [D.any] at h
theorem pyLA_deep : ∀ ds : List D, anyL ds = true → PyData.depthAll (pyL ds) = deepL ds
  | [], _ => rfl
  | d :: ds, h => by
    rw [anyL, Bool.and_eq_true] at h
    rw [pyL, PyData.depthAll, deepL, pyA_deep d h.1, pyLA_deep ds h.2]
end
section
variable {K : PySem.W.Frag} {B H : Hp}
mutual
theorem dpA_of (e : Ex B H) : ∀ {v : V} {d : D}, RdD K B v d → d.any = true → Dp K H v d.py
  | _, _, .non, _ => .non
  | _, _, .int i, _ => .int i
  | _, _, .str x, _ => .str x
  | _, _, .lst ha r, h => by
    rw [D.any] at h
    rw [D.py]
    exact .lst (sq_of (e _ _ ha)) (dpLA_of e r h)
  | _, _, .tup ha r, h => by
    rw [D.any] at h
    rw [D.py]
    exact .tup (ex_t e ha) (dpLA_of e r h)
  | _, _, .bl b, h => .bl b
  | _, _, .ref _, h => by cases h
  | _, _, .ty _, h => by cases h
  | _, _, .scr _ _, h => by simp [D.any] at h
theorem dpLA_of (e : Ex B H) : ∀ {vs : List V} {ds : List D}, RdL K B vs ds → anyL ds = true → DpAll K H vs (pyL ds)
  | _, _, .nil, _ => .nil
  | _, _, .cons h r, hn => by
    rw [anyL, Bool.and_eq_true] at hn
    rw [pyL]
    exact .cons (dpA_of e h hn.1) (dpLA_of e r hn.2)
end
end
def oNinA : DR2 := fun x y S k => ∃ ds, y = .list ds ∧ x.any = true ∧ anyL ds = true ∧ x.deep ≤ 64 ∧ deepL ds ≤ 60 ∧ k (.bl (!(pyL ds).any fun z => PyData.eqv z x.py)) S
section
variable {K : PySem.W.Frag}
/-- x + y, lists, as a list that changes -/
def oCatN : DR2 := fun x y S k => match x, y with
  | .list a, .list b => a.length + b.length ≤ 100000 ∧ ∀ p, S p = none → k (.ref p) (put S p (.lst (a ++ b)))
  | _, _ => False
/-! x is False -/
def oIsBl : DR2 := fun x y S k => match y with
  | .bl b => match x with
    | .bl c => k (.bl (decide (c = b))) S
    | .non => k (.bl false) S
    | .int _ => k (.bl false) S
    | .str _ => k (.bl false) S
    | .ref _ => k (.bl false) S
    | _ => False
  | _ => False
end
/-! == beside instances of one class -/
structure EqC (K : PySem.W.Frag) (C : Addr) : Prop where
  hm : PySem.W.mroIn K C (.type "object") = some true
  hs : PySem.W.findIn K (.ref C) "__eq__" = some (some (.builtin "object.__eq__"))
  s1 : PySem.W.subIn K (.type "NoneType") (.ref C) = some false
  s2 : PySem.W.subIn K (.type "bool") (.ref C) = some false
  s3 : PySem.W.subIn K (.type "str") (.ref C) = some false
  s4 : PySem.W.subIn K (.ref C) (.type "NoneType") = some false
  s5 : PySem.W.subIn K (.ref C) (.type "bool") = some false
  s6 : PySem.W.subIn K (.ref C) (.type "str") = some false
inductive Fl3 : V → Prop where
  | non : Fl3 .non
  | bl (b : Bool) : Fl3 (.bl b)
  | str (s : Str) : Fl3 (.str s)
inductive EqA (C : Addr) (S : Sto) : D → D → Bool → Prop where
  | flat {x y : D} {b : Bool} (h : sEq x y = some b) : EqA C S x y b
  | rn {a dx : Addr} {fs : List (Str × D)} (h : S a = some (.ins C dx fs)) : EqA C S (.ref a) .non false
  | rb {a dx : Addr} {fs : List (Str × D)} (h : S a = some (.ins C dx fs)) (b : Bool) : EqA C S (.ref a) (.bl b) false
  | rs {a dx : Addr} {fs : List (Str × D)} (h : S a = some (.ins C dx fs)) (s : Str) : EqA C S (.ref a) (.str s) false
  | nr {a dx : Addr} {fs : List (Str × D)} (h : S a = some (.ins C dx fs)) : EqA C S .non (.ref a) false
  | br {a dx : Addr} {fs : List (Str × D)} (h : S a = some (.ins C dx fs)) (b : Bool) : EqA C S (.bl b) (.ref a) false
  | sr {a dx : Addr} {fs : List (Str × D)} (h : S a = some (.ins C dx fs)) (s : Str) : EqA C S (.str s) (.ref a) false
  | rr {a dx b dy : Addr} {fs gs : List (Str × D)} (h : S a = some (.ins C dx fs)) (h2 : S b = some (.ins C dy gs)) : EqA C S (.ref a) (.ref b) (decide (a = b))
def oEqO (C : Addr) : DR2 := fun x y S k => ∃ b, EqA C S x y b ∧ k (.bl b) S
section
variable {S : Sto} {k : DK} {C : Addr} {x y : D} {b c : Bool} {s : Str} {i : Int} {a : Addr}
theorem x_eqO : oEqO C x y S k = st2 (oEqO C) x y S k ⟨⟩ := propext Iff.rfl
theorem x_ninA : oNinA x y S k = st2 oNinA x y S k ⟨⟩ := propext Iff.rfl
theorem x_catN {l m : List D} : oCatN (.list l) (.list m) S k = few (l.length + m.length) (fresh S (fun p => k (.ref p) (put S p (.lst (l ++ m)))) ⟨⟩) ⟨⟩ := propext Iff.rfl
theorem x_isBB : oIsBl (.bl c) (.bl b) S k = k (.bl (decide (c = b))) S := propext Iff.rfl
theorem x_isBN : oIsBl .non (.bl b) S k = k (.bl false) S := propext Iff.rfl
theorem x_isBI : oIsBl (.int i) (.bl b) S k = k (.bl false) S := propext Iff.rfl
theorem x_isBS : oIsBl (.str s) (.bl b) S k = k (.bl false) S := propext Iff.rfl
theorem x_isBR : oIsBl (.ref a) (.bl b) S k = k (.bl false) S := propext Iff.rfl
end
end DL

set_option Elab.async false
set_option linter.all false
set_option maxRecDepth 100000
/-! ### sorted(dict), its keys numbers, any number of them -/
namespace SD
open PySem PySem.Spec PyProof.Rows L2
/-- what is collected of a dict of numbers -/
theorem ints_got {vs : List (Key × Value)} {ks : List Int} {acc : Array Value} (hkeys : vs.map (·.1) = ks.map Sum.inl) (hal : acc.toList.length = ks.length) (hacc : ∀ (j : Nat) (v : Value), acc[j]? = some v → ∃ (k : Key) (x : Value), vs[j]? = some (k, x) ∧ keyIs k v = true) : IntsAre acc.toList ks := ints_each hal fun j v e => by
  obtain ⟨k, x, e1, e2⟩ := hacc j v (by rw [← Array.getElem?_toList]; exact e)
  have e3 : (ks.map Sum.inl)[j]? = some k := by rw [← hkeys, List.getElem?_map, e1]; rfl
  rw [List.getElem?_map] at e3
  obtain ⟨y, e4, e5⟩ := Option.map_eq_some_iff.mp e3
  subst e5
  rcases keyIs_shape e2 with ⟨i, t, ek, ev⟩ | ⟨z, t, ek, ev⟩
  · cases ek
    exact ⟨y, t, e4, ev⟩
  · cases ek
variable {X : Cx}
def rSortDL : List V → Hp → VK → Prop := fun xs H Q => ∃ (a : Addr) (kvs : List (Key × V)) (ks : List Int), xs = [.ref a] ∧ Rd H a (.dK kvs) ∧ kvs.map (·.1) = ks.map Sum.inl ∧ ks.length ≤ 100000 ∧
    ∀ (ys : List Int) (p : Addr), ys.Perm ks → ys.Pairwise (· ≤ ·) → H p = none → Q (.ref p) (upd H p (.lst (ys.map V.int)))
theorem call_sortedDL (hcalm : X.calm = true) : CallR X (.builtin "sorted") rSortDL := by
  intro pins s σ H xs us Q I r ⟨a, kvs, ks, ex, hd, hks, hz, q⟩
  subst ex
  obtain ⟨u, eu, rx⟩ := vals1 r
  subst eu
  cases rx
  obtain ⟨z, lo, vs, rel, dd⟩ := dk_rd I.hok hd
  obtain ⟨ep, hat⟩ := dd.dictAt
  have hkeys : vs.map (·.1) = ks.map Sum.inl := rel.keys.symm.trans hks
  have hl : vs.length = ks.length := by simpa using congrArg List.length hkeys
  have hsz : ks.length ≤ sizeLine := by rw [sizeLine_eq]; omega
  refine Calls.call_function_entry kind_sorted plain_sorted entry_sorted (args_sorted1 _) ?_
  unfold Builtin.«sorted»
  refine wpAny_bind (m := checkCount "sorted" 1 1 _) (wpAny_pure ?_)
  refine wpAny_bind (PySem.W.kdu_collect (A := X.A.in1) (PySem.W.kdl_dict (knd := mixKind X.prog X.w) (kvs := vs) (ep := ep) lo) (I.ok.hd hcalm) hat (by rw [hl]; exact hsz) fun h' tk acc hk hacc => ?_)
  have hal : acc.toList.length = ks.length := by rw [Array.length_toList, hacc.1, hl]
  have hS : IntsAre acc.toList ks := ints_got hkeys hal hacc.2
  have I1 : Inv X pins σ H { s with heap := h', toks := tk } := I.kept hk
  refine wpAny_bind (wpAny_newList ?_ (by rw [hal]; exact hsz))
  have hoL : (h'.push (seqObj "list" acc.toList.toArray 0)).get? h'.objs.size = some (seqObj "list" acc.toList.toArray 0) := Heap.get?_push_size _ rfl
  show wpAny _ _ _ _ _ { s with heap := h'.push (seqObj "list" acc.toList.toArray 0), toks := tk }
  refine wpAny_bind (wpAny_holding (wpAny_call_entry slot_list_sort ⟨_, hoL, rfl⟩ entry_list_sort
    (SrtO.list_sort_ord (s := { s with heap := h'.push (seqObj "list" acc.toList.toArray 0), toks := tk }) SrtO.swo_int hoL (by rw [hal]; exact hsz) (fun h2 => SrtO.ints_sortable hS h2) fun out g1 g2 => ⟨_, rfl, ?_⟩) (args_list_sort _)))
  obtain ⟨k1, k2, k3⟩ := SrtO.ints_out hS g1 g2
  obtain ⟨e', he'⟩ := sortedHeap_at (vs := acc.toList) (out := out.toArray) hoL
  have hlen : ((out.map SrtO.iv).map V.int).length ≤ sizeLine := by
    rw [List.length_map, k2.length_eq]
    exact hsz
  refine wpAny_pure ⟨_, rfl, .ref h'.objs.size, upd H h'.objs.size (.lst ((out.map SrtO.iv).map V.int)), I1.laid (t' := tk) (fun b u e => ?_) (Nat.le_refl _)
    (show ObjOk X.prog X.w _ _ _ (.lst ((out.map SrtO.iv).map V.int)) from ⟨hlen, out, e', vals_of_ints k1, he'⟩), rfl, q _ _ k2 k3 (I1.hok.fresh (Nat.le_refl _))⟩
  have hb : b < h'.objs.size := Heap.lt_size e
  rw [sortedHeap_old (Nat.ne_of_lt hb) (by rw [size_push']; exact Nat.lt_succ_of_lt hb)]
  exact Heap.get?_push_of_some _ e
end SD
namespace DL
open PySem L2 Evl EX
section
variable {K : PySem.W.Frag}
def oSortDL : List D → Sto → DK → Prop := fun xs S k => match xs with
  | [.ref a] => ∃ (kvs : List (Key × D)) (ks : List Int), S a = some (.dct kvs) ∧ kvs.map (·.1) = ks.map Sum.inl ∧ ks.length ≤ 100000 ∧ ∀ ys : List Int, ys.Perm ks → ys.Pairwise (· ≤ ·) → k (.list (ys.map D.int)) S
  | _ => False
theorem si_sortDL : SimC K SD.rSortDL oSortDL := fun B S H vs xs k Q r rx h1 q => by
  unfold oSortDL at h1
  split at h1
  · obtain ⟨v, rfl, rv⟩ := rdl1 rx
    cases rd_ref rv
    obtain ⟨kvs, ks, hs, hk, hl, h1⟩ := h1
    obtain ⟨gs, hg, rg⟩ := r.dct hs
    refine ⟨_, gs, ks, rfl, .inl hg, by rw [rdkv_keys rg]; exact hk, hl, fun ys p pm pw hp => ?_⟩
    have n := r.new (o := .lst (ys.map V.int)) hp
    exact q _ S _ _ _ (h1 ys pm pw) n.2 n.1 (.lst upd_same (rdl_ints _))
  · exact h1.elim
end
theorem x_sortDL {S : Sto} {k : DK} {xs : List D} : oSortDL xs S k = stC oSortDL xs S k ⟨⟩ := propext Iff.rfl
end DL

set_option Elab.async false
set_option linter.all false
set_option maxRecDepth 100000
/-! ### xs[i] = v for a list that changes; comprehensions that change the store -/
namespace DL
open PySem L2 Evl EX
def setq (o i v : D) (S : Sto) (k : Sto → Prop) (_ : Tag k) : Prop := ∃ p ds n j, o = .ref p ∧ i = .int n ∧ S p = some (.lst ds) ∧ ixN ds.length n = some j ∧ k (put S p (.lst (ds.set j v)))
def gSubD (dO dI : DE) : DG := fun x δ S k => dO δ S fun o S1 => dI δ S1 fun i S2 => setq o i x S2 (fun S3 => k δ S3) ⟨⟩
section
variable {X : Cx} {K : PySem.W.Frag} {o i : Expr} {dO dI : DE} {pos : Pos}
theorem dg_sub (ho : PE X o (lE K dO)) (hi : PE X i (lE K dI))
    (ha : ∀ v, assign (.Subscript o i pos) X.env v = (do
      let ov ← holding [v] (eval o X.env)
      let iv ← holding [v, ov] (eval i X.env)
      standAt pos
      holding [v, ov, iv] (setItem ov iv v)
      release [v, ov, iv] []) := by intro _; rfl) : PG X (.Subscript o i pos) (lG K (gSubD dO dI)) :=
  pgOf (pg_sub ho hi set_list ha) fun v σ H Q ⟨B, δ, S, x, k, s, r, rx, h, q⟩ => ⟨B, δ, S, _, s, r, h, fun y S1 w B1 H1 h1 e1 r1 d1 => ⟨B1, δ, S1, _, s.mono e1, r1, h1, fun z S2 u B2 H2 h2 e2 r2 d2 => by
    obtain ⟨p, ds, n, j, rfl, rfl, hp, hj, h2⟩ := h2
    obtain ⟨xs, hx, rl⟩ := r2.lst hp
    cases rd_ref d1
    cases rd_int d2
    exact ⟨p, xs, n, j, rfl, rfl, hx, by rw [rl.length]; exact hj, q δ _ σ B2 _ h2 (e1.trans e2) (s.mono (e1.trans e2)) (r2.mut hp (.lst (RdL.set (rx.mono (e1.trans e2)) j rl)))⟩⟩⟩
end
section
variable {δ : Dst} {S : Sto} {k : DK} {dO dI : DE} {p : Addr} {ds : List D} {v x : D}
theorem x_gSub {kg : Dst → Sto → Prop} : gSubD dO dI x δ S kg = dO δ S fun o S1 => dI δ S1 fun i S2 => setq o i x S2 (fun S3 => kg δ S3) ⟨⟩ := propext Iff.rfl
theorem setOf {k : Sto → Prop} {n : Int} {j : Nat} (h : S p = some (.lst ds)) (hj : ixN ds.length n = some j) (q : k (put S p (.lst (ds.set j v)))) : setq (.ref p) (.int n) v S k ⟨⟩ := ⟨p, ds, n, j, rfl, rfl, h, hj, q⟩
/-- a comprehension whose elements change the store: I, the store without the list that grows -/
theorem lcOfS {gc : DGc} {t : DT} {de : DE} {vs : List Nat} (I : Nat → List D → Sto → Prop) (hl : ds.length < 100000) (h0 : I 0 [] S)
    (hs : ∀ p, S p = none → ∀ n d acc S', ds[n]? = some d → S' p = none → I n acc S' → gc d (wipeD δ vs) fun δ2 => t δ2 (put S' p (.lst acc)) fun b S2 => branch b (de δ2 S2 (fun y S3 => ∃ S4, S4 p = none ∧ S3 = put S4 p (.lst acc) ∧ I (n + 1) (acc ++ [y]) S4)) (∃ S4, S4 p = none ∧ S2 = put S4 p (.lst acc) ∧ I (n + 1) acc S4) ⟨⟩)
    (hd : ∀ acc S', I ds.length acc S' → k (.list acc) S') : lcC ds gc t de vs δ S k ⟨⟩ :=
  ⟨hl, fun p hp => ⟨I, h0, fun n d acc S' hd' hp' hI => hs p hp n d acc S' hd' hp' hI, fun acc S' _ hI => hd acc S' hI⟩⟩
end
end DL

set_option Elab.async false
set_option linter.all false
set_option maxRecDepth 100000
/-! ### dict(pairs) -/
namespace DL
open PySem L2 Evl EX
def gmerge (kvs : List (Key × D)) (l : List (Key × D)) : List (Key × D) := l.foldl (fun a kv => gput a kv.1 kv.2) kvs
/-- dict([(k, v), ..]) -/
def oDictP : List D → Sto → DK → Prop := fun xs S k => match xs with
  | [.list ds] => ∃ kvs : List (Key × D), ds = kvs.map (fun kv => .tup [dK kv.1, kv.2]) ∧ ∀ p, S p = none → k (.ref p) (put S p (.dct (gmerge [] kvs)))
  | _ => False
section
variable {K : PySem.W.Frag} {B : Hp}
theorem rd_dK {v : V} {k : Key} (h : RdD K B v (dK k)) : v = kV k := by
  cases k with
  | inl i => exact rd_int h
  | inr s => exact rd_str h
theorem merge_rd : ∀ {gs : List (Key × V)} {kvs : List (Key × D)} {gs0 : List (Key × V)} {kvs0 : List (Key × D)}, RdKV K B gs kvs → RdKV K B gs0 kvs0 → RdKV K B (mergeK gs0 gs) (gmerge kvs0 kvs)
  | _, _, _, _, .nil, h0 => h0
  | (a, v) :: gs, (b, d) :: kvs, gs0, kvs0, .cons h r, h0 => by
    have h1 : a = b := h.1
    subst h1
    show RdKV K B (mergeK (putK gs0 a v) gs) (gmerge (gput kvs0 a d) kvs)
    exact merge_rd (gs := gs) (kvs := kvs) r (rdkv_gput h.2 h0)
end
theorem x_dictP {S : Sto} {k : DK} {xs : List D} : oDictP xs S k = stC oDictP xs S k ⟨⟩ := propext Iff.rfl
end DL

set_option Elab.async false
set_option linter.all false
set_option maxRecDepth 100000
/-! ### loops over what stands in the store: a list that stays as it is meanwhile, a dict's keys (locked) -/
namespace DL
open PySem L2 Evl EX
/-- what is walked, and what must hold of the store for it to go on -/
abbrev DIS := Dst → Sto → (List D → (Sto → Prop) → Sto → Prop) → Prop
structure ItOkS (K : PySem.W.Frag) (B : Hp) (J : It) (ds : List D) (Φ : Sto → Prop) : Prop where
  go : ∀ i B1 S H, Ex B B1 → R K B1 S H → Φ S → i < ds.length → J.go i H
  stop : ∀ i B1 S H, Ex B B1 → R K B1 S H → Φ S → ds.length ≤ i → J.stop i H
  yld : ∀ i H x H' B1 S, Ex B B1 → R K B1 S H → Φ S → i < ds.length → J.yld i H x H' → ∃ d B2, ds[i]? = some d ∧ Ex B1 B2 ∧ R K B2 S H' ∧ RdD K B2 x d
def lIS (K : PySem.W.Frag) (di : DIS) : TI := fun σ H Rr => ∃ B δ S k, Sl K B σ δ ∧ R K B S H ∧ di δ S k ∧ ∀ ds Φ S' B' H' J, k ds Φ S' → Ex B B' → R K B' S' H' → ItOkS K B' J ds Φ → Rr J H'
def dForS (di : DIS) (g : DG) (b : DS) : DS := fun D δ S => di δ S fun ds Φ S1 => ∃ I : Nat → Dst → Sto → Prop, I 0 δ S1 ∧ Φ S1 ∧
  (∀ n d δ' S', ds[n]? = some d → Φ S' → I n δ' S' → g d δ' S' fun δ2 S2 => b { D with nx := fun δ3 S3 => Φ S3 ∧ I (n + 1) δ3 S3, ct := fun δ3 S3 => Φ S3 ∧ I (n + 1) δ3 S3, bk := D.nx } δ2 S2) ∧ ∀ δ' S', Φ S' → I ds.length δ' S' → D.nx δ' S'
section
variable {X : Cx} {K : PySem.W.Frag} {W : WXD} {d : DS} {pos : Pos}
theorem ds_forS {iter tg : Expr} {body : List Stmt} {di : DIS} {g : DG} (hp : PassesOwn (model X.prog X.w) X.A X.env X.xe) (hc : X.calm = true) (hi : PI X tg iter (lIS K di)) (hg : PG X tg (lG K g)) (hb : PSs X body (lS K W d)) (hs : ∀ x, foldedSetIterable iter X.env x = pure x := by intro _; rfl)
    : PS X (.For tg iter body [] pos) (lS K W (dForS di g d)) := psOf (ps_for hp hc hi hg hb hs) fun E σ H ⟨B, δ, S, D, s, r, h, l⟩ =>
  ⟨B, δ, S, _, s, r, h, fun ds Φ S1 B1 H1 J ⟨I, h0, p0, hs, hd⟩ e1 r1 it => by
    refine ⟨fun i m σ' H' => m = ds.length - i ∧ i ≤ ds.length ∧ ∃ B2 δ2 S2, Ex B1 B2 ∧ Sl K B2 σ' δ2 ∧ R K B2 S2 H' ∧ Φ S2 ∧ I i δ2 S2, ⟨ds.length, rfl, Nat.zero_le _, B1, δ, S1, Ex.refl B1, s.mono e1, r1, p0, h0⟩, ?_⟩
    rintro i m σ' H' ⟨rfl, hi, B2, δ2, S2, e2, s2, r2, p2, hI⟩
    by_cases hlt : i < ds.length
    · refine .inr ⟨it.go i B2 S2 H' e2 r2 p2 hlt, fun σ3 H3 => ∃ B3 δ3 S3, Ex B1 B3 ∧ Sl K B3 σ3 δ3 ∧ R K B3 S3 H3 ∧ Φ S3 ∧ I (i + 1) δ3 S3, fun σ3 H3 hn => ⟨ds.length - (i + 1), by omega, rfl, by omega, hn⟩, fun x H3 hy => ?_⟩
      obtain ⟨d', B3, hd', e3, r3, rd⟩ := it.yld i H' x H3 B2 S2 e2 r2 p2 hlt hy
      refine ⟨B3, δ2, S2, d', _, s2.mono e3, r3, rd, hs i d' δ2 S2 hd' p2 hI, fun δ4 S4 σ4 B4 H4 h4 e4 s4 r4 => ⟨B4, δ4, S4, _, s4, r4, h4, ?_⟩⟩
      have e14 : Ex B1 B4 := e2.trans (e3.trans e4)
      exact ⟨fun δ5 S5 σ5 B5 H5 h5 e5 s5 r5 => ⟨B5, δ5, S5, e14.trans e5, s5, r5, h5⟩, fun x S v B' H' hk e' => l.rt x S v B' H' hk (e1.trans (e14.trans e')), fun δ5 S5 σ5 B5 H5 h5 e5 s5 r5 => l.nx δ5 S5 σ5 B5 H5 h5 (e1.trans (e14.trans e5)) s5 r5,
        fun δ5 S5 σ5 B5 H5 h5 e5 s5 r5 => ⟨B5, δ5, S5, e14.trans e5, s5, r5, h5⟩, fun c od δ5 S5 σ5 B5 H5 h5 e5 => l.xx c od δ5 S5 σ5 B5 H5 h5 (e1.trans (e14.trans e5))⟩
    · have ei : i = ds.length := by omega
      subst ei
      exact .inl ⟨it.stop _ B2 S2 H' e2 r2 p2 (Nat.le_refl _), l.nx δ2 S2 σ' B2 H' (hd δ2 S2 p2 hI) (e1.trans e2) s2 r2⟩⟩
/-- a list of the store -/
def diSL (de : DE) : DIS := fun δ S k => de δ S fun x S1 => ∃ p ds, x = .ref p ∧ S1 p = some (.lst ds) ∧ k ds (fun S' => S' p = some (.lst ds)) S1
theorem di_stl {tg l : Expr} {de : DE} (h : PE X l (lE K de)) (hk : X.K = K := by rfl) : PI X tg l (lIS K (diSL de)) := piOf (piL h hk) fun σ H Q ⟨B, δ, S, k, s, r, h, q⟩ =>
  ⟨B, δ, S, _, s, r, h, fun x S1 v B1 H1 ⟨p, ds, hx, hp, h1⟩ e1 r1 d1 => by
    subst hx
    cases rd_ref d1
    obtain ⟨xs, hx, rl⟩ := r1.lst hp
    refine ⟨p, rfl, ⟨xs, sq_of hx⟩, q _ _ S1 B1 H1 _ h1 e1 r1 ⟨fun i B2 S H e r2 hS hi => ?_, fun i B2 S H e r2 hS hi => ?_, fun i H x H' B2 S e r2 hS hi hy => ?_⟩⟩
    · obtain ⟨ys, hy, ry⟩ := r2.lst hS
      have : i < ys.length := by rw [ry.length]; exact hi
      exact ⟨ys, ys[i], sq_of hy, List.getElem?_eq_getElem this⟩
    · obtain ⟨ys, hy, ry⟩ := r2.lst hS
      exact ⟨ys, sq_of hy, by rw [ry.length]; exact hi⟩
    · obtain ⟨rfl, hy⟩ := hy
      obtain ⟨ys, hz, ry⟩ := r2.lst hS
      obtain ⟨d, hd, rd⟩ := ry.getV (hy ys (sq_of hz))
      exact ⟨d, B2, hd, Ex.refl B2, r2, rd⟩⟩
/-- a dict's keys -/
def diKeys (de : DE) : DIS := fun δ S k => de δ S fun x S1 => ∃ p od xs kvs, x = .ref p ∧ S1 p = some (.lck od xs kvs) ∧ k (kvs.map fun kv => dK kv.1) (fun S' => S' p = some (.lck od xs kvs)) S1
theorem di_keys {tg l : Expr} {de : DE} (h : PE X l (lE K de)) : PI X tg l (lIS K (diKeys de)) := piOf (pi_keys h) fun σ H Q ⟨B, δ, S, k, s, r, h, q⟩ =>
  ⟨B, δ, S, _, s, r, h, fun x S1 v B1 H1 ⟨p, od, xs, kvs, hx, hp, h1⟩ e1 r1 d1 => by
    subst hx
    cases rd_ref d1
    obtain ⟨hx, rl⟩ := r1.lck hp
    have hlen : xs.length = kvs.length := rdkv_len rl
    refine ⟨p, od, rfl, .inl ⟨xs, hx, q _ _ S1 B1 H1 _ h1 e1 r1 ⟨fun i B2 S H e r2 hS hi => ?_, fun i B2 S H e r2 hS hi => ?_, fun i H x H' B2 S e r2 hS hi hy => ?_⟩⟩⟩
    · obtain ⟨hy, ry⟩ := r2.lck hS
      exact ⟨hy, by rw [List.length_map] at hi; omega⟩
    · obtain ⟨hy, ry⟩ := r2.lck hS
      exact ⟨hy, by rw [List.length_map] at hi; omega⟩
    · obtain ⟨rfl, k, v, hkv, rfl⟩ := hy
      have hk := rdkv_keys rl
      refine ⟨dK k, B2, ?_, Ex.refl B2, r2, rd_kV k⟩
      have e2 : (kvs.map fun kv => dK kv.1) = (kvs.map (·.1)).map dK := by rw [List.map_map]; rfl
      rw [e2, ← hk, List.map_map, List.getElem?_map, hkv]
      rfl⟩
/-- a statement while a dict is locked -/
def dLock (d : DS) : DS := fun E δ S => ∃ a kvs, S a = some (.dct kvs) ∧ ∀ od xs, d ⟨fun δ' S' => S' a = some (.lck od xs kvs) ∧ E.nx δ' (put S' a (.dct kvs)), fun v S' => S' a = some (.lck od xs kvs) ∧ E.rt v (put S' a (.dct kvs)),
  fun δ' S' => S' a = some (.lck od xs kvs) ∧ E.bk δ' (put S' a (.dct kvs)), fun δ' S' => S' a = some (.lck od xs kvs) ∧ E.ct δ' (put S' a (.dct kvs)), fun _ _ _ _ => False⟩ δ (put S a (.lck od xs kvs))
theorem ds_lock {st : Stmt} (h : PS X st (lS K W d)) : PS X st (lS K W (dLock d)) := psOf (ps_lock h) fun E σ H ⟨B, δ, S, D, s, r, ⟨a, kvs, ha, h⟩, l⟩ => by
  obtain ⟨xs, hx, rl⟩ := r.dct ha
  refine ⟨a, .dK xs, hx, trivial, fun od => ⟨B, δ, _, _, s, r.mut ha (.lck (od := od) rl), h od xs, ?_⟩⟩
  have back : ∀ {B' : Hp} {S' : Sto} {H' : Hp}, R K B' S' H' → S' a = some (.lck od xs kvs) → H' a = some (.frz od (.dK xs)) ∧ R K B' (put S' a (.dct kvs)) (upd H' a (.dK xs)) := fun r' h' => ⟨(r'.lck h').1, r'.mut h' (.dct (r'.lck h').2)⟩
  exact ⟨fun δ' S' σ' B' H' ⟨h1, h2⟩ e' s' r' => ⟨(back r' h1).1, l.nx δ' _ σ' B' _ h2 e' s' (back r' h1).2⟩,
    fun x S' v B' H' ⟨h1, h2⟩ e' r' rd' => ⟨(back r' h1).1, l.rt x _ v B' _ h2 e' (back r' h1).2 rd'⟩,
    fun δ' S' σ' B' H' ⟨h1, h2⟩ e' s' r' => ⟨(back r' h1).1, l.bk δ' _ σ' B' _ h2 e' s' (back r' h1).2⟩,
    fun δ' S' σ' B' H' ⟨h1, h2⟩ e' s' r' => ⟨(back r' h1).1, l.ct δ' _ σ' B' _ h2 e' s' (back r' h1).2⟩, fun _ _ _ _ _ _ _ z => z.elim⟩
end
/-! stepping -/
def forSC (ds : List D) (Φ : Sto → Prop) (g : DG) (b : DS) (E : DEnds) (δ : Dst) (S : Sto) (_ : Tag (E, g, b)) : Prop := ∃ I : Nat → Dst → Sto → Prop, I 0 δ S ∧ Φ S ∧
  (∀ n d δ' S', ds[n]? = some d → Φ S' → I n δ' S' → g d δ' S' fun δ2 S2 => b { E with nx := fun δ3 S3 => Φ S3 ∧ I (n + 1) δ3 S3, ct := fun δ3 S3 => Φ S3 ∧ I (n + 1) δ3 S3, bk := E.nx } δ2 S2) ∧ ∀ δ' S', Φ S' → I ds.length δ' S' → E.nx δ' S'
def slq (x : D) (S : Sto) (k : List D → (Sto → Prop) → Sto → Prop) (_ : Tag k) : Prop := ∃ p ds, x = .ref p ∧ S p = some (.lst ds) ∧ k ds (fun S' => S' p = some (.lst ds)) S
def skq (x : D) (S : Sto) (k : List D → (Sto → Prop) → Sto → Prop) (_ : Tag k) : Prop := ∃ p od xs kvs, x = .ref p ∧ S p = some (.lck od xs kvs) ∧ k (kvs.map fun kv => dK kv.1) (fun S' => S' p = some (.lck od xs kvs)) S
def lockq (d : DS) (E : DEnds) (δ : Dst) (S : Sto) (_ : Tag (d, E)) : Prop := dLock d E δ S
section
variable {δ : Dst} {S : Sto} {E : DEnds} {de : DE} {d b : DS} {g : DG} {di : DIS} {ds : List D} {Φ : Sto → Prop} {a p : Addr} {kvs : List (Key × D)} {ka : List D → (Sto → Prop) → Sto → Prop}
theorem x_forS : dForS di g b E δ S = di δ S fun ds Φ S1 => forSC ds Φ g b E δ S1 ⟨⟩ := propext Iff.rfl
theorem x_diSL : diSL de δ S ka = de δ S fun x S1 => slq x S1 ka ⟨⟩ := propext Iff.rfl
theorem x_diKeys : diKeys de δ S ka = de δ S fun x S1 => skq x S1 ka ⟨⟩ := propext Iff.rfl
theorem x_lock : dLock d E δ S = lockq d E δ S ⟨⟩ := propext Iff.rfl
theorem slOf (h : S p = some (.lst ds)) (q : ka ds (fun S' => S' p = some (.lst ds)) S) : slq (.ref p) S ka ⟨⟩ := ⟨p, ds, rfl, h, q⟩
theorem skOf {od : Obj} {xs : List (Key × V)} (h : S p = some (.lck od xs kvs)) (q : ka (kvs.map fun kv => dK kv.1) (fun S' => S' p = some (.lck od xs kvs)) S) : skq (.ref p) S ka ⟨⟩ := ⟨p, od, xs, kvs, rfl, h, q⟩
theorem forSOf (I : Nat → Dst → Sto → Prop) (h0 : I 0 δ S) (p0 : Φ S) (hs : ∀ n d δ' S', ds[n]? = some d → Φ S' → I n δ' S' → g d δ' S' fun δ2 S2 => b { E with nx := fun δ3 S3 => Φ S3 ∧ I (n + 1) δ3 S3, ct := fun δ3 S3 => Φ S3 ∧ I (n + 1) δ3 S3, bk := E.nx } δ2 S2)
    (hd : ∀ δ' S', Φ S' → I ds.length δ' S' → E.nx δ' S') : forSC ds Φ g b E δ S ⟨⟩ := ⟨I, h0, p0, hs, hd⟩
theorem lockOf (h : S a = some (.dct kvs)) (q : ∀ od xs, d ⟨fun δ' S' => S' a = some (.lck od xs kvs) ∧ E.nx δ' (put S' a (.dct kvs)), fun v S' => S' a = some (.lck od xs kvs) ∧ E.rt v (put S' a (.dct kvs)),
  fun δ' S' => S' a = some (.lck od xs kvs) ∧ E.bk δ' (put S' a (.dct kvs)), fun δ' S' => S' a = some (.lck od xs kvs) ∧ E.ct δ' (put S' a (.dct kvs)), fun _ _ _ _ => False⟩ δ (put S a (.lck od xs kvs))) : lockq d E δ S ⟨⟩ := ⟨a, kvs, h, q⟩
end
section
variable {S : Sto} {k : DK} {x y p : D}
open Classical in
theorem neSame (hx : res S x = p) (hy : res S y = p) (h1 : p.nb = true) (h3 : p.deep ≤ 64) (h : k (.bl false) S) : st2 (oEqD true) x y S k ⟨⟩ := neDOf hx hy h1 h1 (by rw [Nat.min_self]; exact h3) (by rw [decide_eq_true rfl]; exact h)
open Classical in
theorem eqSame (hx : res S x = p) (hy : res S y = p) (h1 : p.nb = true) (h3 : p.deep ≤ 64) (h : k (.bl true) S) : st2 (oEqD false) x y S k ⟨⟩ := eqDOf hx hy h1 h1 (by rw [Nat.min_self]; exact h3) (by rw [decide_eq_true rfl]; exact h)
end
/-! ### the store read otherwise -/
end DL

set_option Elab.async false
set_option linter.all false
set_option maxRecDepth 100000
/-! ### xs.count, xs.remove, xs.clear, {k: v}, dict(d), comprehensions over lists of the store and dicts, == of any data -/
namespace DL
open PySem L2 Evl EX
section
variable {K : PySem.W.Frag}
def oCnt : DM := fun x xs S k => ∃ (ns : List Int) (i : Int), SeqD S x (ns.map D.int) ∧ (∀ ds, x ≠ .tup ds) ∧ xs = [.int i] ∧ k (.int (ns.count i : Nat)) S
theorem mtCnt {X : Cx} (h : X.K = K := by rfl) : MtR X "list.count" (rCntI K) := h ▸ mt_lcount
theorem rdl_int {B : Hp} {vs : List V} (ns : List Int) (h : RdL K B vs (ns.map D.int)) : vs = ns.map V.int := rdl_of_map (fun v a r => rd_int r) ns h
theorem si_cnt : SimM K (rCntI K) oCnt := fun B S H v x vs xs k Q r rx rl h1 q => by
  obtain ⟨ns, i, hs, ht, rfl, h1⟩ := h1
  obtain ⟨w, rfl, rw'⟩ := rdl1 rl
  obtain ⟨p, ys, rfl, hp, ry⟩ := seqL_ok hs ht r rx
  cases rd_int rw'
  cases rdl_int ns ry
  exact ⟨p, ns, i, rfl, rfl, hp, q _ S _ B H h1 (Ex.refl B) r (.int _)⟩
theorem rem_at : ∀ (ns : List Int) (n : Int), n ∈ ns → ∃ j : Nat, ns[j]? = some n ∧ (∀ m : Nat, m < j → ns[m]? ≠ some n) ∧ ns.eraseIdx j = ns.erase n
  | [], n, h => by cases h
  | a :: ns, n, h => by
    by_cases e : a = n
    · subst e
      exact ⟨0, rfl, fun m hm => by omega, by simp⟩
    · obtain ⟨j, h1, h2, h3⟩ := rem_at ns n ((List.mem_cons.mp h).resolve_left (Ne.symm e))
      refine ⟨j + 1, by simpa using h1, fun m hm => ?_, ?_⟩
      · cases m with
        | zero => simpa using e
        | succ m => simpa using h2 m (by omega)
      · rw [List.eraseIdx_cons_succ, h3, List.erase_cons, if_neg (by simpa using e)]
def oRem : DM := fun x xs S k => match x, xs with
  | .ref a, [.int n] => ∃ ns : List Int, S a = some (.lst (ns.map D.int)) ∧ n ∈ ns ∧ k .non (put S a (.lst ((ns.erase n).map D.int)))
  | _, _ => False
theorem si_rem : SimM K rRemI oRem := fun B S H v x vs xs k Q r rx rl h1 q => by
  unfold oRem at h1
  split at h1
  · obtain ⟨w, rfl, rw'⟩ := rdl1 rl
    obtain ⟨ns, hs, hn, h1⟩ := h1
    obtain ⟨ys, ha, rr⟩ := r.lst hs
    cases rdl_int ns rr
    cases rd_ref rx
    cases rd_int rw'
    obtain ⟨j, j1, j2, j3⟩ := rem_at ns _ hn
    refine ⟨_, ns, _, j, rfl, rfl, ha, j1, j2, ?_⟩
    rw [j3]
    exact q _ _ _ B _ h1 (Ex.refl B) (r.mut hs (.lst (rdl_ints _))) .non
  · exact h1.elim
def oClr : DM := fun x xs S k => match x, xs with
  | .ref a, [] => ∃ ds, S a = some (.lst ds) ∧ k .non (put S a (.lst []))
  | _, _ => False
theorem si_clr : SimM K rClear oClr := fun B S H v x vs xs k Q r rx rl h1 q => by
  unfold oClr at h1
  split at h1
  · cases rl
    obtain ⟨ds, hs, h1⟩ := h1
    obtain ⟨ys, ha, rr⟩ := r.lst hs
    cases rd_ref rx
    exact ⟨_, ys, rfl, rfl, ha, q _ _ _ B _ h1 (Ex.refl B) (r.mut hs (.lst .nil)) .non⟩
  · exact h1.elim
/-! dict(d) -/
def oDictD : List D → Sto → DK → Prop := fun xs S k => match xs with
  | [.ref a] => ∃ kvs, DctAt S a kvs ∧ ∀ p, S p = none → k (.ref p) (put S p (.dct kvs))
  | _ => False
theorem si_dictD : SimC K (fun xs H Q => ∃ (a : Addr) (kvs : List (Key × V)), xs = [.ref a] ∧ Rd H a (.dK kvs) ∧ ∀ p, H p = none → Q (.ref p) (upd H p (.dK kvs))) oDictD := fun B S H vs xs k Q r rx h1 q => by
  unfold oDictD at h1
  split at h1
  · obtain ⟨v, rfl, rv⟩ := rdl1 rx
    cases rd_ref rv
    obtain ⟨kvs, hs, h1⟩ := h1
    obtain ⟨gs, hg, rg⟩ := r.dctR hs
    exact ⟨_, gs, rfl, hg, fun p hp => q _ _ _ B _ (h1 p (r.fresh hp).2) (Ex.refl B) (r.newS hp (.dct rg)) (.ref p)⟩
  · exact h1.elim
/-! {k: v, ..} -/
def dPairs : List (DE × DE) → Dst → Sto → (List (D × D) → Sto → Prop) → Prop
  | [], _, S, k => k [] S
  | (dk, dv) :: r, δ, S, k => dk δ S fun x S1 => dv δ S1 fun y S2 => dPairs r δ S2 fun ps S3 => k ((x, y) :: ps) S3
def lP (K : PySem.W.Frag) (trs : List (DE × DE)) : List (TE × TE) := trs.map fun p => (lE K p.1, lE K p.2)
theorem dps_nil {X : Cx} {pos : Pos} : PPs X pos [] [] (lP K []) := pps_nil
theorem dps_cons {X : Cx} {pos : Pos} {k v : Expr} {ks : List (Option Expr)} {vs : List Expr} {tk tv : DE} {trs : List (DE × DE)} (hk : PE X k (lE K tk)) (hv : PE X v (lE K tv)) (hr : PPs X pos ks vs (lP K trs)) :
    PPs X pos (some k :: ks) (v :: vs) (lP K ((tk, tv) :: trs)) := pps_cons hk hv hr
/-- pairs as they are read -/
def RdP (K : PySem.W.Frag) (B : Hp) : List (V × V) → List (D × D) → Prop := Paired fun p q => RdD K B p.1 q.1 ∧ RdD K B p.2 q.2
theorem l_pairs {σ : L2.St} {δ : Dst} : ∀ (trs : List (DE × DE)) {B : Hp} {S : Sto} {H : Hp} {k : List (D × D) → Sto → Prop} {Q : List (V × V) → Hp → Prop}, Sl K B σ δ → R K B S H → dPairs trs δ S k →
    (∀ ps S' vs B' H', k ps S' → Ex B B' → R K B' S' H' → RdP K B' vs ps → Q vs H') → tPairs (lP K trs) σ H Q
  | [], B, S, H, k, Q, s, r, h, q => q [] S [] B H h (Ex.refl B) r .nil
  | (dk, dv) :: trs, B, S, H, k, Q, s, r, h, q => ⟨B, δ, S, _, s, r, h, fun x S1 v B1 H1 h1 e1 r1 d1 => ⟨B1, δ, S1, _, s.mono e1, r1, h1, fun y S2 w B2 H2 h2 e2 r2 d2 =>
      l_pairs trs (s.mono (e1.trans e2)) r2 h2 fun ps S' vs B' H' hk e' r' rp => q _ S' _ B' H' hk (e1.trans (e2.trans e')) r' (.cons ⟨d1.mono (e2.trans e'), d2.mono e'⟩ rp)⟩⟩
theorem rdp_kvs {B : Hp} : ∀ {vs : List (V × V)} (kvs : List (Key × D)), RdP K B vs (kvs.map fun kv => (dK kv.1, kv.2)) → ∃ gs : List (Key × V), vs = gs.map (fun kv => (kV kv.1, kv.2)) ∧ RdKV K B gs kvs
  | _, [], .nil => ⟨[], rfl, .nil⟩
  | _, kv :: kvs, .cons (a := p) h r => by
    obtain ⟨gs, rfl, rg⟩ := rdp_kvs kvs r
    obtain ⟨p1, p2⟩ := p
    have e : p1 = kV kv.1 := rd_dK h.1
    subst e
    exact ⟨(kv.1, p2) :: gs, rfl, .cons ⟨rfl, h.2⟩ rg⟩
def dDisp (trs : List (DE × DE)) : DE := fun δ S k => ∀ p, S p = none → dPairs trs δ (put S p (.dct [])) fun ps S2 => S2 p = some (.dct []) ∧ ∃ kvs : List (Key × D), ps = kvs.map (fun kv => (dK kv.1, kv.2)) ∧ kvs.length ≤ 15 ∧ k (.ref p) (put S2 p (.dct (gmerge [] kvs)))
theorem de_disp {X : Cx} {pos : Pos} {keys : List (Option Expr)} {values : List Expr} {trs : List (DE × DE)} (h : PPs X pos keys values (lP K trs)) (hall : keys.all (·.isSome) = true := by rfl) (hl : keys.length = values.length := by rfl) (h0 : keys ≠ [] := by exact nofun)
    (h15 : keys.length ≤ 15 := by decide) : PE X (.Dict keys values pos) (lE K (dDisp trs)) := peOf (pe_disp h hall hl h0 h15) fun σ H Q ⟨B, δ, S, k, s, r, h, q⟩ p hp =>
  l_pairs trs s (r.newS hp (.dct .nil)) (h p (r.fresh hp).2) fun ps S' vs B' H' ⟨h1, kvs, h2, h3, h4⟩ e' r' rp => by
    subst h2
    obtain ⟨gs, rfl, rg⟩ := rdp_kvs kvs rp
    obtain ⟨xs, hx, rx⟩ := r'.dct h1
    cases rx
    exact ⟨hx, gs, rfl, by rw [rdkv_len rg]; exact h3, q _ _ _ B' _ h4 e' (r'.mut h1 (.dct (merge_rd rg .nil))) (.ref p)⟩
/-! == of any data -/
def oEqA (neg : Bool) : DR2 := fun x y S k => (res S x).any = true ∧ (res S y).any = true ∧ min (res S x).deep (res S y).deep ≤ 64 ∧ k (.bl (if neg then !PyData.eqv (res S x).py (res S y).py else PyData.eqv (res S x).py (res S y).py)) S
theorem dpA_res {B H : Hp} {S : Sto} {v : V} {x : D} (r : R K B S H) (rx : RdD K B v x) (h : (res S x).any = true) : Dp K H v (res S x).py := by
  cases x with
  | ref a =>
    simp only [res] at h ⊢
    cases e : S a with
    | none => rw [e] at h; cases h
    | some o =>
      cases o with
      | lst ds =>
        rw [e] at h
        simp only [D.any] at h
        obtain ⟨xs, ha, rl⟩ := r.lst e
        cases rd_ref rx
        simp only [D.py]
        exact .lst (sq_of ha) (dpLA_of r.ex rl h)
      | _ => rw [e] at h; cases h
  | _ => exact dpA_of r.ex rx h
theorem si_eqA (neg : Bool) : Sim2 K (rEqM K neg) (oEqA neg) := fun B S H v w x y k Q r rx ry h1 q => by
  obtain ⟨hx, hy, hm, h1⟩ := h1
  exact ⟨_, _, dpA_res r rx hx, dpA_res r ry hy, pyA_lay _ hx, pyA_lay _ hy, by rw [pyA_deep _ hx, pyA_deep _ hy]; exact hm, q _ S _ B H h1 (Ex.refl B) r (.bl _)⟩
mutual
theorem eqv_refl : ∀ d : D, PyData.eqv d.py d.py = true
  | .non => by simp [D.py, PyData.eqv]
  | .bl b => by simp [D.py, PyData.eqv]
  | .int i => by simp [D.py, PyData.eqv]
  | .str x => by simp [D.py, PyData.eqv]
  | .list ds => by rw [D.py, PyData.eqv]; exact eqvL_refl ds
  | .tup ds => by rw [D.py, PyData.eqv]; exact eqvL_refl ds
  | .scr ds => by rw [D.py, PyData.eqv]; exact eqvL_refl ds
  | .ref _ => by simp [D.py, PyData.eqv]
  | .ty _ => by simp [D.py, PyData.eqv]
theorem eqvL_refl : ∀ ds : List D, PyData.eqvAll (pyL ds) (pyL ds) = true
  | [] => by simp [pyL, PyData.eqvAll]
  | d :: ds => by rw [pyL, PyData.eqvAll, eqv_refl d, eqvL_refl ds]; rfl
end
/-! comprehensions over what stands in the store -/
def dLcS (di : DIS) (g : DGc) (t : DT) (de : DE) (vs : List Nat) : DE := fun δ S k => di δ S fun ds Φ S1 => ds.length < 100000 ∧ ∀ p, S1 p = none → ∃ I : Nat → List D → Sto → Prop, I 0 [] S1 ∧ (∀ n acc S', S' p = none → I n acc S' → Φ (put S' p (.lst acc))) ∧
  (∀ n d acc S', ds[n]? = some d → S' p = none → I n acc S' → g d (wipeD δ vs) fun δ2 => t δ2 (put S' p (.lst acc)) fun b S2 => if b = true then de δ2 S2 (fun y S3 => ∃ S4, S4 p = none ∧ S3 = put S4 p (.lst acc) ∧ I (n + 1) (acc ++ [y]) S4) else ∃ S4, S4 p = none ∧ S2 = put S4 p (.lst acc) ∧ I (n + 1) acc S4) ∧
  ∀ acc S', S' p = none → I ds.length acc S' → k (.list acc) S'
end
section
variable {X : Cx} {K : PySem.W.Frag} {W : WXD}
theorem l_lcS {di : DIS} {g : TG} {gd : DGc} {t : DT} {de : DE} {vs : List Nat} (hg : GcOk K vs g gd) (σ : L2.St) (H : Hp) (Q : VK) : lE K (dLcS di gd t de vs) σ H Q → tLc (lIS K di) g (lT K t) (lE K de) vs σ H Q := fun ⟨B, δ, S, k, s, r, h, q⟩ =>
  ⟨B, δ, S, _, s, r, h, fun ds Φ S1 B1 H1 J ⟨hlen, hp⟩ e1 r1 it => fun Dl hD => by
    have fr := (r1.fresh hD).2
    obtain ⟨I, h0, hΦ, hs, hd⟩ := hp Dl fr
    refine ⟨fun i m H' => m = ds.length - i ∧ i ≤ ds.length ∧ ∃ B2 S2 acc, acc.length ≤ i ∧ S2 Dl = none ∧ Ex B1 B2 ∧ R K B2 (put S2 Dl (.lst acc)) H' ∧ I i acc S2, ⟨ds.length, rfl, Nat.zero_le _, B1, S1, [], Nat.le_refl _, fr, Ex.refl B1, r1.newS hD (.lst .nil), h0⟩, ?_⟩
    rintro i m H' ⟨rfl, hi, B2, S2, acc, hal, n2, e2, r2, hI⟩
    have ph := hΦ i acc S2 n2 hI
    by_cases hlt : i < ds.length
    · refine .inr ⟨it.go i B2 _ H' e2 r2 ph hlt, fun H3 => ∃ B3 S3 acc, acc.length ≤ i + 1 ∧ S3 Dl = none ∧ Ex B1 B3 ∧ R K B3 (put S3 Dl (.lst acc)) H3 ∧ I (i + 1) acc S3, fun H3 hn => ⟨ds.length - (i + 1), by omega, rfl, by omega, hn⟩, fun x H3 hy => ?_⟩
      obtain ⟨d, B3, hd', e3, r3, rd⟩ := it.yld i H' x H3 B2 _ e2 r2 ph hlt hy
      refine hg B3 H3 σ (wipeD δ vs) x d _ _ ((s.mono (e1.trans (e2.trans e3))).wipe vs) r3.ex rd (hs i d acc S2 hd' n2 hI) fun σ2 δ2 hk s2 hw => ⟨hw, ?_⟩
      refine ⟨B3, δ2, _, _, s2, r3, hk, fun b S4 B4 H4 h4 e4 r4 => ?_⟩
      have e14 : Ex B1 B4 := e2.trans (e3.trans e4)
      cases b with
      | false =>
        obtain ⟨S5, n5, rfl, hI5⟩ := h4
        exact ⟨B4, S5, acc, by omega, n5, e14, r4, hI5⟩
      | true =>
        refine ⟨B4, δ2, S4, _, s2.mono e4, r4, h4, fun y S5 v B5 H5 ⟨S6, n6, h6, hI6⟩ e5 r5 d5 => ?_⟩
        subst h6
        obtain ⟨xs, hx, rl⟩ := r5.lst put_same
        have r6 := r5.mut put_same (.lst (rl.append (.one d5)))
        rw [put_put] at r6
        exact ⟨xs, hx, sz_lt (by rw [rl.length]; omega), B5, S6, acc ++ [y], by simp; omega, n6, e14.trans e5, r6, hI6⟩
    · have ei : i = ds.length := by omega
      subst ei
      obtain ⟨B', e', r', rd⟩ := r2.freeze put_same
      rw [del_put n2] at r'
      exact .inl ⟨it.stop _ B2 _ H' e2 r2 ph (Nat.le_refl _), q _ _ _ B' H' (hd acc S2 n2 hI) (e1.trans (e2.trans e')) r' rd⟩⟩
theorem de_lcS {elt tg iter : Expr} {ifs : List Expr} {scope : Scope} {own : List (Str × Nat)} {pos : Pos} {di : DIS} {g : TG} {gd : DGc} {t : DT} {de : DE} (hgc : GcOk K (own.map (·.2)) g gd) (hc : X.calm = true) (hN : X.N.Nodup) (hi : PI X tg iter (lIS K di)) (ok : BlkOk X.N X.env.scope scope own)
    (hg : ∀ (s : Shared) (H : Hp) (C : Addr) (cl : List (Str × Addr)) (fp : List Addr), PG (X.blk s H scope (compEnvC scope cl C X.env) fp) tg g) (ht : ∀ (s : Shared) (H : Hp) (C : Addr) (cl : List (Str × Addr)) (fp : List Addr), PTs (X.blk s H scope (compEnvC scope cl C X.env) fp) ifs (lT K t))
    (he : ∀ (s : Shared) (H : Hp) (C : Addr) (cl : List (Str × Addr)) (fp : List Addr), PE (X.blk s H scope (compEnvC scope cl C X.env) fp) elt (lE K de)) (hs : ∀ x, foldedSetIterable iter X.env x = pure x := by intro _; rfl) :
    PE X (.ListComp elt [⟨tg, iter, ifs, 0⟩] scope pos) (lE K (dLcS di gd t de (own.map (·.2)))) := peOf (pe_lc hc hN hi ok hg ht he hs) (l_lcS hgc)
theorem ds_setLcS {i : Nat} {y : Str} {py : Pos} {elt tg iter : Expr} {ifs : List Expr} {scope : Scope} {own : List (Str × Nat)} {pos spos : Pos} {di : DIS} {g : TG} {gd : DGc} {t : DT} {de : DE} (hgc : GcOk K (own.map (·.2)) g gd) (hc : X.calm = true) (hN : X.N.Nodup) (hy : X.N[i]? = some y) (hyl : X.env.scope.names.lookup y = some .local)
    (hsw : swapsWith (.ListComp elt [⟨tg, iter, ifs, 0⟩] scope pos) (some (.Name y py)) spos.line X.env = pure true) (hi : PI X tg iter (lIS K di)) (ok : BlkOk X.N X.env.scope scope own)
    (hg : ∀ (s : Shared) (H : Hp) (C : Addr) (cl : List (Str × Addr)) (fp : List Addr), PG (X.blk s H scope (compEnvC scope cl C X.env) fp) tg g) (ht : ∀ (s : Shared) (H : Hp) (C : Addr) (cl : List (Str × Addr)) (fp : List Addr), PTs (X.blk s H scope (compEnvC scope cl C X.env) fp) ifs (lT K t))
    (he : ∀ (s : Shared) (H : Hp) (C : Addr) (cl : List (Str × Addr)) (fp : List Addr), PE (X.blk s H scope (compEnvC scope cl C X.env) fp) elt (lE K de)) (hs : ∀ x, foldedSetIterable iter X.env x = pure x := by intro _; rfl) :
    PS X (.Assign [.Name y py] (.ListComp elt [⟨tg, iter, ifs, 0⟩] scope pos) spos) (lS K W (dSet (dLcS di gd t de (own.map (·.2))) i)) := psOf (ps_setLc hc hN hy hyl hsw hi ok hg ht he hs) fun E σ H ⟨B, δ, S, D, s, r, h, l⟩ =>
  l_lcS hgc σ H _ ⟨B, δ, S, _, s, r, h, fun x S1 v B1 H1 h1 e1 r1 d1 => l.nx _ S1 _ B1 H1 h1 e1 ((s.mono e1).set d1 i) r1⟩
/-- an expression while a dict is locked -/
def dLockE (d : DE) : DE := fun δ S k => ∃ a kvs, S a = some (.dct kvs) ∧ ∀ od xs, d δ (put S a (.lck od xs kvs)) fun v S' => S' a = some (.lck od xs kvs) ∧ k v (put S' a (.dct kvs))
end
/-! stepping -/
def lcSC (ds : List D) (Φ : Sto → Prop) (g : DGc) (t : DT) (de : DE) (vs : List Nat) (δ : Dst) (S : Sto) (k : DK) (_ : Tag (k, g, t, de)) : Prop := ds.length < 100000 ∧ ∀ p, S p = none → ∃ I : Nat → List D → Sto → Prop, I 0 [] S ∧ (∀ n acc S', S' p = none → I n acc S' → Φ (put S' p (.lst acc))) ∧
  (∀ n d acc S', ds[n]? = some d → S' p = none → I n acc S' → g d (wipeD δ vs) fun δ2 => t δ2 (put S' p (.lst acc)) fun b S2 => if b = true then de δ2 S2 (fun y S3 => ∃ S4, S4 p = none ∧ S3 = put S4 p (.lst acc) ∧ I (n + 1) (acc ++ [y]) S4) else ∃ S4, S4 p = none ∧ S2 = put S4 p (.lst acc) ∧ I (n + 1) acc S4) ∧
  ∀ acc S', S' p = none → I ds.length acc S' → k (.list acc) S'
def lockEq (d : DE) (δ : Dst) (S : Sto) (k : DK) (_ : Tag (d, k)) : Prop := dLockE d δ S k
section
variable {δ : Dst} {S : Sto} {k : DK} {de : DE} {gc : DGc} {t : DT} {di : DIS} {ds : List D} {Φ : Sto → Prop} {a p : Addr} {vs : List Nat} {x y : D} {xs : List D} {kvs : List (Key × D)} {trs : List (DE × DE)} {kp : List (D × D) → Sto → Prop}
theorem x_lcS : dLcS di gc t de vs δ S k = di δ S fun ds Φ S1 => lcSC ds Φ gc t de vs δ S1 k ⟨⟩ := propext Iff.rfl
theorem x_lockE : dLockE de δ S k = lockEq de δ S k ⟨⟩ := propext Iff.rfl
theorem x_eqA {neg : Bool} : oEqA neg x y S k = st2 (oEqA neg) x y S k ⟨⟩ := propext Iff.rfl
theorem x_dictD : oDictD xs S k = stC oDictD xs S k ⟨⟩ := propext Iff.rfl
theorem x_disp : dDisp trs δ S k = fresh S (fun p => dPairs trs δ (put S p (.dct [])) fun ps S2 => need (S2 p = some (.dct [])) (∃ kvs : List (Key × D), ps = kvs.map (fun kv => (dK kv.1, kv.2)) ∧ kvs.length ≤ 15 ∧ k (.ref p) (put S2 p (.dct (gmerge [] kvs)))) ⟨⟩) ⟨⟩ := propext Iff.rfl
theorem x_pNil : dPairs [] δ S kp = kp [] S := propext Iff.rfl
theorem x_pCons {dk dv : DE} : dPairs ((dk, dv) :: trs) δ S kp = dk δ S fun x S1 => dv δ S1 fun y S2 => dPairs trs δ S2 fun ps S3 => kp ((x, y) :: ps) S3 := propext Iff.rfl
theorem cntOf {ns : List Int} {i : Int} (h : S a = some (.lst (ns.map D.int))) (q : k (.int (ns.count i : Nat)) S) : stM oCnt (.ref a) [.int i] S k ⟨⟩ := ⟨ns, i, h, fun _ => nofun, rfl, q⟩
theorem remOf {ns : List Int} {i : Int} (h : S a = some (.lst (ns.map D.int))) (hi : i ∈ ns) (q : k .non (put S a (.lst ((ns.erase i).map D.int)))) : stM oRem (.ref a) [.int i] S k ⟨⟩ := ⟨ns, h, hi, q⟩
theorem clrOf (h : S a = some (.lst ds)) (q : k .non (put S a (.lst []))) : stM oClr (.ref a) [] S k ⟨⟩ := ⟨ds, h, q⟩
theorem pop0Of (h : S a = some (.lst (y :: ds))) (q : k y (put S a (.lst ds))) : stM oPop0 (.ref a) [.int 0] S k ⟨⟩ := ⟨ds, y, h, q⟩
theorem dictDOf (h : DctAt S a kvs) (q : ∀ p, S p = none → k (.ref p) (put S p (.dct kvs))) : stC oDictD [.ref a] S k ⟨⟩ := ⟨kvs, h, q⟩
/-- a comprehension over what stands in the store, the store staying as it is -/
theorem lcSOf (P : Nat → List D → Prop) (hl : ds.length < 100000) (hΦ : ∀ p acc, S p = none → Φ (put S p (.lst acc))) (h0 : P 0 [])
    (hs : ∀ p, S p = none → ∀ n d acc, ds[n]? = some d → P n acc → gc d (wipeD δ vs) fun δ2 => t δ2 (put S p (.lst acc)) fun b S2 => branch b (de δ2 S2 (fun y S3 => LcO S p acc (P (n + 1) (acc ++ [y])) S3)) (LcO S p acc (P (n + 1) acc) S2) ⟨⟩) (hd : ∀ acc, P ds.length acc → k (.list acc) S) :
    lcSC ds Φ gc t de vs δ S k ⟨⟩ := by
  refine ⟨hl, fun p hp => ⟨fun n acc S' => S' = S ∧ P n acc, ⟨rfl, h0⟩, ?_, ?_, ?_⟩⟩
  · rintro n acc S' _ ⟨rfl, _⟩
    exact hΦ p acc hp
  · rintro n d acc S' hd' _ ⟨rfl, hP⟩
    exact hs p hp n d acc hd' hP
  · rintro acc S' _ ⟨rfl, hP⟩
    exact hd acc hP
theorem neASame (hx : res S x = p') (hy : res S y = p') (h1 : p'.any = true) (h3 : p'.deep ≤ 64) (h : k (.bl false) S) : st2 (oEqA true) x y S k ⟨⟩ := by
  subst hx
  refine ⟨h1, by rw [hy]; exact h1, by rw [hy, Nat.min_self]; exact h3, ?_⟩
  rw [hy, eqv_refl]
  exact h
theorem eqAOf {u v : D} {b : Bool} (hx : res S x = u) (hy : res S y = v) (h1 : u.any = true) (h2 : v.any = true) (h3 : min u.deep v.deep ≤ 64) (hb : PyData.eqv u.py v.py = b) (h : k (.bl b) S) : st2 (oEqA false) x y S k ⟨⟩ := by
  subst hx hy hb
  exact ⟨h1, h2, h3, h⟩
theorem neAOf {u v : D} {b : Bool} (hx : res S x = u) (hy : res S y = v) (h1 : u.any = true) (h2 : v.any = true) (h3 : min u.deep v.deep ≤ 64) (hb : PyData.eqv u.py v.py = b) (h : k (.bl (!b)) S) : st2 (oEqA true) x y S k ⟨⟩ := by
  subst hx hy hb
  exact ⟨h1, h2, h3, h⟩
end
end DL

set_option Elab.async false
set_option linter.all false
set_option maxRecDepth 100000
/-! ### xs.pop(i) -/
namespace DL
open PySem L2 Evl EX
theorem RdL.eraseIdx {K : PySem.W.Frag} {B : Hp} : ∀ {vs : List V} {ds : List D} (n : Nat), RdL K B vs ds → RdL K B (vs.eraseIdx n) (ds.eraseIdx n)
  | _, _, _, .nil => .nil
  | _, _, 0, .cons _ r => r
  | _, _, n + 1, .cons h r => .cons h (r.eraseIdx n)
def oPopAt : DM := fun x xs S k => match x, xs with
  | .ref a, [.int i] => ∃ ds y, ∃ j : Nat, S a = some (.lst ds) ∧ i = (j : Int) ∧ j < 100000 ∧ ds[j]? = some y ∧ k y (put S a (.lst (ds.eraseIdx j)))
  | _, _ => False
section
variable {K : PySem.W.Frag}
theorem si_popAt : SimM K rPopAt oPopAt := fun B S H v x vs xs k Q r rx rl h1 q => by
  unfold oPopAt at h1
  split at h1
  · obtain ⟨w, rfl, rw'⟩ := rdl1 rl
    obtain ⟨ds, y, j, hs, rfl, hj, hy, h1⟩ := h1
    obtain ⟨ys, ha, rr⟩ := r.lst hs
    obtain ⟨u, hu, ru⟩ := rr.get hy
    cases rd_ref rx
    cases rd_int rw'
    have hlt := (List.getElem?_eq_some_iff.mp hu).1
    refine ⟨_, ys, (j : Int), j, u, rfl, rfl, ha, by omega, by omega, ?_, hu, q _ _ _ B _ h1 (Ex.refl B) (r.mut hs (.lst (rr.eraseIdx j))) ru⟩
    unfold seqIndex?
    have h0 : ¬ ((j : Int) < 0) := by omega
    rw [if_neg h0]
    have h1 : (decide ((0 : Int) ≤ (j : Int)) && decide ((j : Int) < (ys.length : Int))) = true := by simp; omega
    rw [if_pos h1]
    simp
  · exact h1.elim
end
theorem popAtOf {S : Sto} {k : DK} {a : Addr} {ds : List D} {y : D} {j : Nat} (h : S a = some (.lst ds)) (hj : j < 100000) (hy : ds[j]? = some y) (q : k y (put S a (.lst (ds.eraseIdx j)))) : stM oPopAt (.ref a) [.int (j : Int)] S k ⟨⟩ := ⟨ds, y, j, h, rfl, hj, hy, q⟩
/-! -x -/
def dNeg (de : DE) : DE := fun δ S k => de δ S fun x S1 => intq x (fun i => k (.int (-i)) S1) ⟨⟩
theorem de_neg {X : Cx} {K : PySem.W.Frag} {a : Expr} {de : DE} {pos : Pos} (h : PE X a (lE K de)) : PE X (.UnaryOp .USub a pos) (lE K (dNeg de)) := peOf (pe_un un_neg h) fun σ H Q ⟨B, δ, S, k, s, r, h, q⟩ =>
  ⟨B, δ, S, _, s, r, h, fun x S1 v B1 H1 h1 e1 r1 d1 => by
    unfold intq at h1
    split at h1
    · rename_i i
      cases rd_int d1
      exact ⟨i, rfl, q _ S1 _ B1 H1 h1 e1 r1 (.int _)⟩
    · exact h1.elim⟩
theorem x_neg {de : DE} {δ : Dst} {S : Sto} {k : DK} : dNeg de δ S k = de δ S fun x S1 => intq x (fun i => k (.int (-i)) S1) ⟨⟩ := propext Iff.rfl
end DL

set_option Elab.async false
set_option linter.all false
set_option maxRecDepth 100000
/-! ### data: exceptions -/
namespace DL
open PySem L2 Evl EX
/-! an exception made: C(v), its __init__ a def that asks the base's __init__ and then stores one field -/
/-- what the written part says of a class whose __init__ is ValueError's own -/
structure VeC (K : PySem.W.Frag) (CE : Addr) : Prop where
  ga : PySem.W.specialIn K (.ref CE) "__getattribute__" = some (some (.builtin "type.__getattribute__"))
  rd : PySem.W.readsIn K CE (.type "type") = true
  ty : PySem.W.typeIn K (.ref CE) = some (.type "type")
  fi : PySem.W.findCls K (.ref CE) (.type "type") "__init__" = some (.val (.builtin "ValueError.__init__"))
section
variable {X : Cx} {e : Expr} {es : List Expr} {ta : TA} {p1 p2 pos : Pos}
end
/-- __init__'s promise: one field is stored -/
def spXI (K : PySem.W.Frag) (C : Addr) (f : Str) : Sp := fun vs H Q _ => ∃ (a : Addr) (v : V), vs = [.ref a, v] ∧ OexC K C ∧ PySem.W.findIn K (.ref C) f = some none ∧ H a = some (exo a C none) ∧ ∀ dx, H dx = none → dx ≠ a → Q .non (upd (upd H dx (exd dx [(f, v)])) a (exo a C (some dx)))
/-- all that raise C(v) wants -/
structure MkX (P : Program) (w : World) (K : PySem.W.Frag) (mg : Str → Option Value) (base : Heap) (k : Nat) (x : Str) (C : Addr) (f : Str) : Prop where
  ex : ∃ (fI : Addr) (fd : FuncData) (ps : List Str), OexC K C ∧ PySem.W.findIn K (.ref C) "__init__" = some (some (.ref fI)) ∧ PySem.W.typeIn K (.ref fI) = some (.type "function") ∧ FnOk P w K mg base CX0 k fI fd ps (spXI K C f) ∧ Binds K fd ps [] ∧ mg x = some (.ref C) ∧ PySem.W.findIn K (.ref C) f = some none
/-! readings that may raise -/
abbrev DEX := Dst → Sto → DK → XDK → Prop
/-- a def that may raise -/
structure DefX (P : Program) (w : World) (K : PySem.W.Frag) (mg : Str → Option Value) (base : Heap) (k : Nat) (x : Str) (ps : List Str) (sp : SpD) : Prop where
  ex : ∃ (f : Addr) (fd : FuncData), FnOk P w K mg base (L2.CX P w) k f fd ps (lSp K sp) ∧ mg x = some (.ref f) ∧ PySem.W.keepIn K (.ref f) = true ∧ Binds K fd ps []
section
variable {X : Cx} {K : PySem.W.Frag} {W : WXD} {e a b : Expr} {es : List Expr} {da : DA} {pos p : Pos}
/-! statements -/
variable {st : Stmt} {d d2 : DS} {pos' : Pos}
/-! try -/
end
/-! what is caught -/
/-- isinstance(e, ..) of exceptions of C -/
structure XcC (K : PySem.W.Frag) (C : Addr) : Prop where
  cl : (PySem.W.clsIn K C).isSome = true
  ga : PySem.W.findIn K (.ref C) "__getattribute__" = some (some (.builtin "BaseException.__getattribute__"))
  gt : PySem.W.findIn K (.ref C) "__getattr__" = some none
  su : PySem.W.subIn K (.ref C) (.type "BaseException") = some true
  ha : PySem.W.findIn K (.ref C) "__class__" = some (some (.builtin "object.__class__"))
  hn : PySem.W.specialIn K (.builtin "object.__class__") "__get__" = some (some (.builtin "getset_descriptor.__get__"))
  tk : PySem.W.takesIn K (.builtin "object.__class__") = some true
  hm : PySem.W.mroIn K C (.type "object") = some true
  hd : PySem.W.hasDictIn K C = true
section
variable {X : Cx} {K : PySem.W.Frag} {W : WXD} {a : Addr} {cls : Value} {d : Option Addr} {oe : Obj} {pn : List (Addr × Obj)}
end
/-! a def that may raise -/
section
variable {P : Program} {w : World} {K : PySem.W.Frag} {mg : Str → Option Value} {base : Heap}
end
end DL

set_option Elab.async false
set_option linter.all false
set_option maxRecDepth 100000
set_option maxHeartbeats 1000000
/-! ### list.extend(tuple), dict.update(pairs), for .. in reversed(..), range(a, b, -1), sorted(dict of texts) -/
namespace DL
open PySem PySem.Spec PyProof.Rows L2 Evl EX
section
variable {K : PySem.W.Frag}
end
/-! d.update([(k, v), ..]) -/
/-! for x in reversed(l), l a list or a tuple -/
section
variable {X : Cx} {K : PySem.W.Frag} {tg e : Expr} {de : DE} {p pos : Pos}
/-! range(a, b, -1) -/
/-! sorted(dict), its keys texts -/
end
/-! stepping -/
section
variable {δ : Dst} {S : Sto} {k : DK} {kl : List D → Sto → Prop} {E : DEnds} {d e : DS} {de : DE} {dx : DEX} {da : DA} {xs ds : List D} {x : D} {i : Nat} {kx : XDK}
/-! exceptions -/
end
/-! comprehensions that map and filter -/
section
variable {δ : Dst} {S : Sto} {k : DK} {ds : List D} {gc : DGc} {t : DT} {de : DE} {vs : List Nat}
end
/-! a comprehension whose list will change -/
def dLcN (di : DI) (g : DGc) (t : DT) (de : DE) (vs : List Nat) : DE := fun δ S k => di δ S fun ds S1 => ds.length < 100000 ∧ ∀ p, S1 p = none → ∃ I : Nat → List D → Sto → Prop, I 0 [] S1 ∧
  (∀ n d acc S', ds[n]? = some d → S' p = none → I n acc S' → g d (wipeD δ vs) fun δ2 => t δ2 (put S' p (.lst acc)) fun b S2 => if b = true then de δ2 S2 (fun y S3 => ∃ S4, S4 p = none ∧ S3 = put S4 p (.lst acc) ∧ I (n + 1) (acc ++ [y]) S4) else ∃ S4, S4 p = none ∧ S2 = put S4 p (.lst acc) ∧ I (n + 1) acc S4) ∧
  ∀ acc S', S' p = none → I ds.length acc S' → k (.ref p) (put S' p (.lst acc))
section
variable {X : Cx} {K : PySem.W.Frag} {W : WXD}
theorem l_lcN {di : DI} {g : TG} {gd : DGc} {t : DT} {de : DE} {vs : List Nat} (hg : GcOk K vs g gd) (σ : L2.St) (H : Hp) (Q : VK) : lE K (dLcN di gd t de vs) σ H Q → tLc (lI K di) g (lT K t) (lE K de) vs σ H Q := fun ⟨B, δ, S, k, s, r, h, q⟩ =>
  ⟨B, δ, S, _, s, r, h, fun ds S1 B1 H1 J ⟨hlen, hp⟩ e1 r1 it => fun Dl hD => by
    have fr := (r1.fresh hD).2
    obtain ⟨I, h0, hs, hd⟩ := hp Dl fr
    refine ⟨fun i m H' => m = ds.length - i ∧ i ≤ ds.length ∧ ∃ B2 S2 acc, acc.length ≤ i ∧ S2 Dl = none ∧ Ex B1 B2 ∧ R K B2 (put S2 Dl (.lst acc)) H' ∧ I i acc S2, ⟨ds.length, rfl, Nat.zero_le _, B1, S1, [], Nat.le_refl _, fr, Ex.refl B1, r1.newS hD (.lst .nil), h0⟩, ?_⟩
    rintro i m H' ⟨rfl, hi, B2, S2, acc, hal, n2, e2, r2, hI⟩
    by_cases hlt : i < ds.length
    · refine .inr ⟨it.go i H' (e2.trans r2.ex) hlt, fun H3 => ∃ B3 S3 acc, acc.length ≤ i + 1 ∧ S3 Dl = none ∧ Ex B1 B3 ∧ R K B3 (put S3 Dl (.lst acc)) H3 ∧ I (i + 1) acc S3, fun H3 hn => ⟨ds.length - (i + 1), by omega, rfl, by omega, hn⟩, fun x H3 hy => ?_⟩
      obtain ⟨d, B3, hd', e3, r3, rd⟩ := it.yld i H' x H3 B2 _ e2 r2 hlt hy
      refine hg B3 H3 σ (wipeD δ vs) x d _ _ ((s.mono (e1.trans (e2.trans e3))).wipe vs) r3.ex rd (hs i d acc S2 hd' n2 hI) fun σ2 δ2 hk s2 hw => ⟨hw, ?_⟩
      refine ⟨B3, δ2, _, _, s2, r3, hk, fun b S4 B4 H4 h4 e4 r4 => ?_⟩
      have e14 : Ex B1 B4 := e2.trans (e3.trans e4)
      cases b with
      | false =>
        obtain ⟨S5, n5, rfl, hI5⟩ := h4
        exact ⟨B4, S5, acc, by omega, n5, e14, r4, hI5⟩
      | true =>
        refine ⟨B4, δ2, S4, _, s2.mono e4, r4, h4, fun y S5 v B5 H5 ⟨S6, n6, h6, hI6⟩ e5 r5 d5 => ?_⟩
        subst h6
        obtain ⟨xs, hx, rl⟩ := r5.lst put_same
        have r6 := r5.mut put_same (.lst (rl.append (.one d5)))
        rw [put_put] at r6
        exact ⟨xs, hx, sz_lt (by rw [rl.length]; omega), B5, S6, acc ++ [y], by simp; omega, n6, e14.trans e5, r6, hI6⟩
    · have ei : i = ds.length := by omega
      subst ei
      exact .inl ⟨it.stop _ H' (e2.trans r2.ex) (Nat.le_refl _), q _ _ _ B2 H' (hd acc S2 n2 hI) (e1.trans e2) r2 (.ref Dl)⟩⟩
theorem de_lcN {elt tg iter : Expr} {ifs : List Expr} {scope : Scope} {own : List (Str × Nat)} {pos : Pos} {di : DI} {g : TG} {gd : DGc} {t : DT} {de : DE} (hgc : GcOk K (own.map (·.2)) g gd) (hc : X.calm = true) (hN : X.N.Nodup) (hi : PI X tg iter (lI K di)) (ok : BlkOk X.N X.env.scope scope own)
    (hg : ∀ (s : Shared) (H : Hp) (C : Addr) (cl : List (Str × Addr)) (fp : List Addr), PG (X.blk s H scope (compEnvC scope cl C X.env) fp) tg g) (ht : ∀ (s : Shared) (H : Hp) (C : Addr) (cl : List (Str × Addr)) (fp : List Addr), PTs (X.blk s H scope (compEnvC scope cl C X.env) fp) ifs (lT K t))
    (he : ∀ (s : Shared) (H : Hp) (C : Addr) (cl : List (Str × Addr)) (fp : List Addr), PE (X.blk s H scope (compEnvC scope cl C X.env) fp) elt (lE K de)) (hs : ∀ x, foldedSetIterable iter X.env x = pure x := by intro _; rfl) :
    PE X (.ListComp elt [⟨tg, iter, ifs, 0⟩] scope pos) (lE K (dLcN di gd t de (own.map (·.2)))) := peOf (pe_lc hc hN hi ok hg ht he hs) (l_lcN hgc)
theorem ds_setLcN {i : Nat} {y : Str} {py : Pos} {elt tg iter : Expr} {ifs : List Expr} {scope : Scope} {own : List (Str × Nat)} {pos spos : Pos} {di : DI} {g : TG} {gd : DGc} {t : DT} {de : DE} (hgc : GcOk K (own.map (·.2)) g gd) (hc : X.calm = true) (hN : X.N.Nodup) (hy : X.N[i]? = some y) (hyl : X.env.scope.names.lookup y = some .local)
    (hsw : swapsWith (.ListComp elt [⟨tg, iter, ifs, 0⟩] scope pos) (some (.Name y py)) spos.line X.env = pure true) (hi : PI X tg iter (lI K di)) (ok : BlkOk X.N X.env.scope scope own)
    (hg : ∀ (s : Shared) (H : Hp) (C : Addr) (cl : List (Str × Addr)) (fp : List Addr), PG (X.blk s H scope (compEnvC scope cl C X.env) fp) tg g) (ht : ∀ (s : Shared) (H : Hp) (C : Addr) (cl : List (Str × Addr)) (fp : List Addr), PTs (X.blk s H scope (compEnvC scope cl C X.env) fp) ifs (lT K t))
    (he : ∀ (s : Shared) (H : Hp) (C : Addr) (cl : List (Str × Addr)) (fp : List Addr), PE (X.blk s H scope (compEnvC scope cl C X.env) fp) elt (lE K de)) (hs : ∀ x, foldedSetIterable iter X.env x = pure x := by intro _; rfl) :
    PS X (.Assign [.Name y py] (.ListComp elt [⟨tg, iter, ifs, 0⟩] scope pos) spos) (lS K W (dSet (dLcN di gd t de (own.map (·.2))) i)) := psOf (ps_setLc hc hN hy hyl hsw hi ok hg ht he hs) fun E σ H ⟨B, δ, S, D, s, r, h, l⟩ =>
  l_lcN hgc σ H _ ⟨B, δ, S, _, s, r, h, fun x S1 v B1 H1 h1 e1 r1 d1 => l.nx _ S1 _ B1 H1 h1 e1 ((s.mono e1).set d1 i) r1⟩
end
def lcNC (ds : List D) (g : DGc) (t : DT) (de : DE) (vs : List Nat) (δ : Dst) (S : Sto) (k : DK) (_ : Tag (k, g, t, de)) : Prop := dLcN (fun _ S1 kk => kk ds S1) g t de vs δ S k
section
variable {δ : Dst} {S : Sto} {k : DK} {ds : List D} {gc : DGc} {t : DT} {de : DE} {vs : List Nat} {di : DI}
theorem x_lcN : dLcN di gc t de vs δ S k = di δ S fun ds S1 => lcNC ds gc t de vs δ S1 k ⟨⟩ := propext Iff.rfl
end
end DL

set_option Elab.async false
set_option linter.all false
set_option maxRecDepth 100000
/-! ### data: != of empty dicts; sorted(dict) as a list of one's own; list(range(..)) -/
namespace DL
open PySem L2 Evl EX
section
variable {K : PySem.W.Frag}
def oSortDLN : List D → Sto → DK → Prop := fun xs S k => match xs with
  | [.ref a] => ∃ (kvs : List (Key × D)) (ks : List Int), S a = some (.dct kvs) ∧ kvs.map (·.1) = ks.map Sum.inl ∧ ks.length ≤ 100000 ∧ ∀ (ys : List Int) (p : Addr), ys.Perm ks → ys.Pairwise (· ≤ ·) → S p = none → k (.ref p) (put S p (.lst (ys.map D.int)))
  | _ => False
theorem si_sortDLN : SimC K SD.rSortDL oSortDLN := fun B S H vs xs k Q r rx h1 q => by
  unfold oSortDLN at h1
  split at h1
  · obtain ⟨v, rfl, rv⟩ := rdl1 rx
    cases rd_ref rv
    obtain ⟨kvs, ks, hs, hk, hl, h1⟩ := h1
    obtain ⟨gs, hg, rg⟩ := r.dct hs
    exact ⟨_, gs, ks, rfl, .inl hg, by rw [rdkv_keys rg]; exact hk, hl, fun ys p pm pw hp => q _ _ _ B _ (h1 ys p pm pw (r.fresh hp).2) (Ex.refl B) (r.newS hp (.lst (rdl_ints _))) (.ref p)⟩
  · exact h1.elim
end
section
variable {S : Sto} {k : DK} {x y : D} {xs : List D}
theorem x_sortDLN : oSortDLN xs S k = stC oSortDLN xs S k ⟨⟩ := propext Iff.rfl
end
end DL

set_option Elab.async false
set_option linter.all false
set_option maxRecDepth 100000
/-! ### data: list(range(a, b)) -/
namespace DL
open PySem L2 Evl EX
section
variable {K : PySem.W.Frag} {X : Cx}
def oLrg : DR2 := fun x y S k => ∃ i j : Int, x = .int i ∧ y = .int j ∧ RgOk i j ∧ k (.list (rngD i (j - i).toNat)) S
end
section
variable {S : Sto} {k : DK} {x y : D}
theorem x_lrg : oLrg x y S k = st2 oLrg x y S k ⟨⟩ := propext Iff.rfl
end
end DL

set_option Elab.async false
set_option linter.all false
set_option maxRecDepth 100000
/-! sorted(set(xs)), xs a list of whole numbers, doubles or not -/
namespace ST
open PySem PySem.Spec PyProof.Rows L2
section
variable {prog : Program} {w : World} {A : Around} {E : Value → Shared → Prop} {s : Shared}
end
end ST
namespace L2
open PySem PySem.Spec PyProof.Rows
end L2
namespace DL
open PySem L2 Evl EX
def dSortSet (da : DE) : DE := fun δ S k => da δ S fun x S1 => ∃ ns : List Int, SeqD S1 x (ns.map D.int) ∧ ns.length ≤ 1000 ∧ (∀ l : List Int, l.Nodup → (∀ j ∈ l, j ∈ ns) → l.length < 64) ∧ (∀ ds, x ≠ .tup ds) ∧ ∀ ys : List Int, ys.Pairwise (· < ·) → (∀ j, j ∈ ys ↔ j ∈ ns) → k (.list (ys.map D.int)) S1
def ssq (x : D) (S : Sto) (k : DK) (_ : Tag k) : Prop := ∃ ns : List Int, SeqD S x (ns.map D.int) ∧ ns.length ≤ 1000 ∧ (∀ l : List Int, l.Nodup → (∀ j ∈ l, j ∈ ns) → l.length < 64) ∧ (∀ ds, x ≠ .tup ds) ∧ ∀ ys : List Int, ys.Pairwise (· < ·) → (∀ j, j ∈ ys ↔ j ∈ ns) → k (.list (ys.map D.int)) S
theorem x_sortSet {da : DE} {δ : Dst} {S : Sto} {k : DK} : dSortSet da δ S k = da δ S fun x S1 => ssq x S1 k ⟨⟩ := propext Iff.rfl
end DL

set_option Elab.async false
set_option linter.all false
set_option maxRecDepth 100000
/-! a list made of a dict that will change; != of lists that hold instances -/
namespace DL
open PySem L2 Evl EX
def dLcSN (di : DIS) (g : DGc) (t : DT) (de : DE) (vs : List Nat) : DE := fun δ S k => di δ S fun ds Φ S1 => ds.length < 100000 ∧ ∀ p, S1 p = none → ∃ I : Nat → List D → Sto → Prop, I 0 [] S1 ∧ (∀ n acc S', S' p = none → I n acc S' → Φ (put S' p (.lst acc))) ∧
  (∀ n d acc S', ds[n]? = some d → S' p = none → I n acc S' → g d (wipeD δ vs) fun δ2 => t δ2 (put S' p (.lst acc)) fun b S2 => if b = true then de δ2 S2 (fun y S3 => ∃ S4, S4 p = none ∧ S3 = put S4 p (.lst acc) ∧ I (n + 1) (acc ++ [y]) S4) else ∃ S4, S4 p = none ∧ S2 = put S4 p (.lst acc) ∧ I (n + 1) acc S4) ∧
  ∀ acc S', S' p = none → I ds.length acc S' → k (.ref p) (put S' p (.lst acc))
section
variable {X : Cx} {K : PySem.W.Frag} {W : WXD}
theorem l_lcSN {di : DIS} {g : TG} {gd : DGc} {t : DT} {de : DE} {vs : List Nat} (hg : GcOk K vs g gd) (σ : L2.St) (H : Hp) (Q : VK) : lE K (dLcSN di gd t de vs) σ H Q → tLc (lIS K di) g (lT K t) (lE K de) vs σ H Q := fun ⟨B, δ, S, k, s, r, h, q⟩ =>
  ⟨B, δ, S, _, s, r, h, fun ds Φ S1 B1 H1 J ⟨hlen, hp⟩ e1 r1 it => fun Dl hD => by
    have fr := (r1.fresh hD).2
    obtain ⟨I, h0, hΦ, hs, hd⟩ := hp Dl fr
    refine ⟨fun i m H' => m = ds.length - i ∧ i ≤ ds.length ∧ ∃ B2 S2 acc, acc.length ≤ i ∧ S2 Dl = none ∧ Ex B1 B2 ∧ R K B2 (put S2 Dl (.lst acc)) H' ∧ I i acc S2, ⟨ds.length, rfl, Nat.zero_le _, B1, S1, [], Nat.le_refl _, fr, Ex.refl B1, r1.newS hD (.lst .nil), h0⟩, ?_⟩
    rintro i m H' ⟨rfl, hi, B2, S2, acc, hal, n2, e2, r2, hI⟩
    have ph := hΦ i acc S2 n2 hI
    by_cases hlt : i < ds.length
    · refine .inr ⟨it.go i B2 _ H' e2 r2 ph hlt, fun H3 => ∃ B3 S3 acc, acc.length ≤ i + 1 ∧ S3 Dl = none ∧ Ex B1 B3 ∧ R K B3 (put S3 Dl (.lst acc)) H3 ∧ I (i + 1) acc S3, fun H3 hn => ⟨ds.length - (i + 1), by omega, rfl, by omega, hn⟩, fun x H3 hy => ?_⟩
      obtain ⟨d, B3, hd', e3, r3, rd⟩ := it.yld i H' x H3 B2 _ e2 r2 ph hlt hy
      refine hg B3 H3 σ (wipeD δ vs) x d _ _ ((s.mono (e1.trans (e2.trans e3))).wipe vs) r3.ex rd (hs i d acc S2 hd' n2 hI) fun σ2 δ2 hk s2 hw => ⟨hw, ?_⟩
      refine ⟨B3, δ2, _, _, s2, r3, hk, fun b S4 B4 H4 h4 e4 r4 => ?_⟩
      have e14 : Ex B1 B4 := e2.trans (e3.trans e4)
      cases b with
      | false =>
        obtain ⟨S5, n5, rfl, hI5⟩ := h4
        exact ⟨B4, S5, acc, by omega, n5, e14, r4, hI5⟩
      | true =>
        refine ⟨B4, δ2, S4, _, s2.mono e4, r4, h4, fun y S5 v B5 H5 ⟨S6, n6, h6, hI6⟩ e5 r5 d5 => ?_⟩
        subst h6
        obtain ⟨xs, hx, rl⟩ := r5.lst put_same
        have r6 := r5.mut put_same (.lst (rl.append (.one d5)))
        rw [put_put] at r6
        exact ⟨xs, hx, sz_lt (by rw [rl.length]; omega), B5, S6, acc ++ [y], by simp; omega, n6, e14.trans e5, r6, hI6⟩
    · have ei : i = ds.length := by omega
      subst ei
      exact .inl ⟨it.stop _ B2 _ H' e2 r2 ph (Nat.le_refl _), q _ _ _ B2 H' (hd acc S2 n2 hI) (e1.trans e2) r2 (.ref Dl)⟩⟩
theorem ds_setLcSN {i : Nat} {y : Str} {py : Pos} {elt tg iter : Expr} {ifs : List Expr} {scope : Scope} {own : List (Str × Nat)} {pos spos : Pos} {di : DIS} {g : TG} {gd : DGc} {t : DT} {de : DE} (hgc : GcOk K (own.map (·.2)) g gd) (hc : X.calm = true) (hN : X.N.Nodup) (hy : X.N[i]? = some y) (hyl : X.env.scope.names.lookup y = some .local)
    (hsw : swapsWith (.ListComp elt [⟨tg, iter, ifs, 0⟩] scope pos) (some (.Name y py)) spos.line X.env = pure true) (hi : PI X tg iter (lIS K di)) (ok : BlkOk X.N X.env.scope scope own)
    (hg : ∀ (s : Shared) (H : Hp) (C : Addr) (cl : List (Str × Addr)) (fp : List Addr), PG (X.blk s H scope (compEnvC scope cl C X.env) fp) tg g) (ht : ∀ (s : Shared) (H : Hp) (C : Addr) (cl : List (Str × Addr)) (fp : List Addr), PTs (X.blk s H scope (compEnvC scope cl C X.env) fp) ifs (lT K t))
    (he : ∀ (s : Shared) (H : Hp) (C : Addr) (cl : List (Str × Addr)) (fp : List Addr), PE (X.blk s H scope (compEnvC scope cl C X.env) fp) elt (lE K de)) (hs : ∀ x, foldedSetIterable iter X.env x = pure x := by intro _; rfl) :
    PS X (.Assign [.Name y py] (.ListComp elt [⟨tg, iter, ifs, 0⟩] scope pos) spos) (lS K W (dSet (dLcSN di gd t de (own.map (·.2))) i)) := psOf (ps_setLc hc hN hy hyl hsw hi ok hg ht he hs) fun E σ H ⟨B, δ, S, D, s, r, h, l⟩ =>
  l_lcSN hgc σ H _ ⟨B, δ, S, _, s, r, h, fun x S1 v B1 H1 h1 e1 r1 d1 => l.nx _ S1 _ B1 H1 h1 e1 ((s.mono e1).set d1 i) r1⟩
end
def lcSNC (ds : List D) (Φ : Sto → Prop) (g : DGc) (t : DT) (de : DE) (vs : List Nat) (δ : Dst) (S : Sto) (k : DK) (_ : Tag (k, g, t, de)) : Prop := ds.length < 100000 ∧ ∀ p, S p = none → ∃ I : Nat → List D → Sto → Prop, I 0 [] S ∧ (∀ n acc S', S' p = none → I n acc S' → Φ (put S' p (.lst acc))) ∧
  (∀ n d acc S', ds[n]? = some d → S' p = none → I n acc S' → g d (wipeD δ vs) fun δ2 => t δ2 (put S' p (.lst acc)) fun b S2 => if b = true then de δ2 S2 (fun y S3 => ∃ S4, S4 p = none ∧ S3 = put S4 p (.lst acc) ∧ I (n + 1) (acc ++ [y]) S4) else ∃ S4, S4 p = none ∧ S2 = put S4 p (.lst acc) ∧ I (n + 1) acc S4) ∧
  ∀ acc S', S' p = none → I ds.length acc S' → k (.ref p) (put S' p (.lst acc))
section
variable {δ : Dst} {S : Sto} {k : DK} {de : DE} {gc : DGc} {t : DT} {di : DIS} {ds : List D} {Φ : Sto → Prop} {vs : List Nat}
theorem x_lcSN : dLcSN di gc t de vs δ S k = di δ S fun ds Φ S1 => lcSNC ds Φ gc t de vs δ S1 k ⟨⟩ := propext Iff.rfl
theorem lcSNOf (P : Nat → List D → Prop) (hl : ds.length < 100000) (hΦ : ∀ p acc, S p = none → Φ (put S p (.lst acc))) (h0 : P 0 [])
    (hs : ∀ p, S p = none → ∀ n d acc, ds[n]? = some d → P n acc → gc d (wipeD δ vs) fun δ2 => t δ2 (put S p (.lst acc)) fun b S2 => branch b (de δ2 S2 (fun y S3 => LcO S p acc (P (n + 1) (acc ++ [y])) S3)) (LcO S p acc (P (n + 1) acc) S2) ⟨⟩) (hd : ∀ acc p, S p = none → P ds.length acc → k (.ref p) (put S p (.lst acc))) :
    lcSNC ds Φ gc t de vs δ S k ⟨⟩ := by
  refine ⟨hl, fun p hp => ⟨fun n acc S' => S' = S ∧ P n acc, ⟨rfl, h0⟩, ?_, ?_, ?_⟩⟩
  · rintro n acc S' _ ⟨rfl, _⟩
    exact hΦ p acc hp
  · rintro n d acc S' hd' _ ⟨rfl, hP⟩
    exact hs p hp n d acc hd' hP
  · rintro acc S' _ ⟨rfl, hP⟩
    exact hd acc p hp hP
end
end DL
namespace L2
open PySem PySem.Spec PyProof.Rows
end L2
namespace DL
open PySem L2 Evl EX
def flatR : D → Bool
  | .non => true | .bl _ => true | .int _ => true | .str _ => true | .ref _ => true
  | _ => false
def oNeV : DR2 := fun x y S k => ∃ ds, SeqD S x ds ∧ SeqD S y ds ∧ (∀ es, x ≠ .tup es) ∧ (∀ es, y ≠ .tup es) ∧ ds.all flatR = true ∧ k (.bl false) S
theorem x_neV {x y : D} {S : Sto} {k : DK} : oNeV x y S k = st2 oNeV x y S k ⟨⟩ := propext Iff.rfl
end DL
namespace DL
open PySem L2 Evl EX
/-- a list: told for good, or in the store -/
def LstAt (S : Sto) (x : D) (ds : List D) : Prop := x = .list ds ∨ ∃ a, x = .ref a ∧ S a = some (.lst ds)
theorem lstAt_ok {K : PySem.W.Frag} {B H : Hp} {S : Sto} {v : V} {x : D} {ds : List D} (h : LstAt S x ds) (r : R K B S H) (rx : RdD K B v x) : ∃ p xs, v = .ref p ∧ H p = some (.lst xs) ∧ RdL K B xs ds := by
  rcases h with rfl | ⟨a, rfl, ha⟩
  · obtain ⟨a, xs, rfl, ha, rl⟩ := rd_list rx
    exact ⟨a, xs, rfl, r.ex _ _ ha, rl⟩
  · obtain ⟨xs, ha, rl⟩ := r.lst ha
    exact ⟨_, xs, rd_ref rx, ha, rl⟩
def oCatM : DR2 := fun x y S k => ∃ a b, LstAt S x a ∧ LstAt S y b ∧ a.length + b.length ≤ 100000 ∧ k (.list (a ++ b)) S
theorem x_catM {x y : D} {S : Sto} {k : DK} : oCatM x y S k = st2 oCatM x y S k ⟨⟩ := propext Iff.rfl
end DL

set_option Elab.async false
set_option linter.all false
set_option maxRecDepth 100000
namespace DL
open PySem L2 Evl EX
/-- x + y of lists, of the store or not, as a list that changes -/
def oCatMN : DR2 := fun x y S k => ∃ a b, LstAt S x a ∧ LstAt S y b ∧ a.length + b.length ≤ 100000 ∧ ∀ p, S p = none → k (.ref p) (put S p (.lst (a ++ b)))
theorem si_catMN {K : PySem.W.Frag} : Sim2 K rCat oCatMN := fun B S H v w x y k Q r rx ry h1 q => by
  obtain ⟨a, b, ha, hb, hl, h1⟩ := h1
  obtain ⟨p, xs, rfl, hp, rl⟩ := lstAt_ok ha r rx
  obtain ⟨p2, ys, rfl, hp2, rl2⟩ := lstAt_ok hb r ry
  refine ⟨p, p2, xs, ys, rfl, rfl, hp, hp2, sz_of (by rw [rl.length, rl2.length]; exact hl), fun z hz => ?_⟩
  exact q _ _ _ B _ (h1 z (r.fresh hz).2) (Ex.refl B) (r.newS hz (.lst (rl.append rl2))) (.ref z)
theorem x_catMN {x y : D} {S : Sto} {k : DK} : oCatMN x y S k = st2 oCatMN x y S k ⟨⟩ := propext Iff.rfl
section
variable {X : Cx} {K : PySem.W.Frag}
theorem de_lcSN {elt tg iter : Expr} {ifs : List Expr} {scope : Scope} {own : List (Str × Nat)} {pos : Pos} {di : DIS} {g : TG} {gd : DGc} {t : DT} {de : DE} (hgc : GcOk K (own.map (·.2)) g gd) (hc : X.calm = true) (hN : X.N.Nodup) (hi : PI X tg iter (lIS K di)) (ok : BlkOk X.N X.env.scope scope own)
    (hg : ∀ (s : Shared) (H : Hp) (C : Addr) (cl : List (Str × Addr)) (fp : List Addr), PG (X.blk s H scope (compEnvC scope cl C X.env) fp) tg g) (ht : ∀ (s : Shared) (H : Hp) (C : Addr) (cl : List (Str × Addr)) (fp : List Addr), PTs (X.blk s H scope (compEnvC scope cl C X.env) fp) ifs (lT K t))
    (he : ∀ (s : Shared) (H : Hp) (C : Addr) (cl : List (Str × Addr)) (fp : List Addr), PE (X.blk s H scope (compEnvC scope cl C X.env) fp) elt (lE K de)) (hs : ∀ x, foldedSetIterable iter X.env x = pure x := by intro _; rfl) :
    PE X (.ListComp elt [⟨tg, iter, ifs, 0⟩] scope pos) (lE K (dLcSN di gd t de (own.map (·.2)))) := peOf (pe_lc hc hN hi ok hg ht he hs) (l_lcSN hgc)
end
end DL

set_option Elab.async false
set_option linter.all false
set_option maxRecDepth 100000
/-! ### what stands in the store, by places of a kind of one's own -/
namespace DL
open PySem L2 Evl EX
structure Rep {L : Type} (A : L → Addr) (C : L → Option O) (S : Sto) : Prop where
  at_ : ∀ {l : L} {o : O}, C l = some o → S (A l) = some o
  inj : ∀ {l l' : L}, C l ≠ none → C l' ≠ none → A l = A l' → l = l'
/-- from one standing to the next: all else stays, nothing is lost, what is new stands where nothing stood; what is pinned keeps its address -/
structure Tr {L : Type} (pin : L → Prop) (A : L → Addr) (C : L → Option O) (S : Sto) (A' : L → Addr) (C' : L → Option O) (S' : Sto) : Prop where
  rep : Rep A' C' S'
  fr : ∀ b, S b ≠ none → (∀ l, C l ≠ none → b ≠ A l) → S' b = S b
  grow : ∀ b, S b ≠ none → S' b ≠ none
  ext : ∀ l, C' l ≠ none → (C l ≠ none ∧ A' l = A l) ∨ S (A' l) = none
  keep : ∀ l, pin l → C l ≠ none → A' l = A l
theorem nn {α : Type} {x : Option α} {a : α} (h : x = some a) : x ≠ none := by rw [h]; exact nofun
section
variable {L : Type} {pin : L → Prop} {A A' A2 : L → Addr} {C C' C2 : L → Option O} {S S' S2 : Sto} {l : L} {o o' : O} {p : Addr}
theorem Rep.refl (R : Rep A C S) : Tr pin A C S A C S := ⟨R, fun _ _ _ => rfl, fun _ h => h, fun _ h => .inl ⟨h, rfl⟩, fun _ _ _ => rfl⟩
theorem Rep.ne (R : Rep A C S) {l l' : L} (h : C l ≠ none) (h' : C l' ≠ none) (e : l ≠ l') : A l ≠ A l' := fun z => e (R.inj h h' z)
theorem Rep.get (R : Rep A C S) (h : C l ≠ none) : ∃ o, C l = some o ∧ S (A l) = some o := by
  cases e : C l with
  | none => exact absurd e h
  | some o => exact ⟨o, rfl, R.at_ e⟩
theorem Rep.live (R : Rep A C S) (h : C l ≠ none) : S (A l) ≠ none := by
  obtain ⟨o, _, e⟩ := R.get h
  exact nn e
theorem Tr.trans (T : Tr pin A C S A' C' S') (U : Tr pin A' C' S' A2 C2 S2) (hk : ∀ l, pin l → C l ≠ none → C' l ≠ none) : Tr pin A C S A2 C2 S2 := by
  refine ⟨U.rep, fun b hb hl => ?_, fun b hb => U.grow b (T.grow b hb), fun l h => ?_, fun l hp h => ?_⟩
  · have e := T.fr b hb hl
    rw [U.fr b (by rw [e]; exact hb) fun l h z => ?_, e]
    rcases T.ext l h with ⟨h1, h2⟩ | h1
    · exact hl l h1 (z.trans h2)
    · rw [← z] at h1; exact hb h1
  · rcases U.ext l h with ⟨h1, h2⟩ | h1
    · rcases T.ext l h1 with ⟨h3, h4⟩ | h3
      · exact .inl ⟨h3, h2.trans h4⟩
      · exact .inr (by rw [h2]; exact h3)
    · refine .inr ?_
      cases e : S (A2 l) with
      | none => rfl
      | some o => exact absurd h1 (T.grow _ (nn e))
  · rw [U.keep l hp (hk l hp h), T.keep l hp h]
theorem live_of (h : C l = some o) (hl : C' l = some o') (hne : ∀ l', l' ≠ l → C' l' = C l') (l' : L) : C' l' ≠ none ↔ C l' ≠ none := by
  by_cases z : l' = l
  · subst z; rw [h, hl]; exact ⟨fun _ => nofun, fun _ => nofun⟩
  · rw [hne l' z]
/-- one thing changes -/
theorem Rep.set (R : Rep A C S) (h : C l = some o) (hl : C' l = some o') (hne : ∀ l', l' ≠ l → C' l' = C l') : Tr pin A C S A C' (put S (A l) o') := by
  have lv := live_of h hl hne
  refine ⟨⟨fun {l' u} e => ?_, fun {l1 l2} h1 h2 => R.inj ((lv l1).mp h1) ((lv l2).mp h2)⟩, fun b _ hb => put_ne (hb l (nn h)), fun b hb => ?_, fun l' h' => .inl ⟨(lv l').mp h', rfl⟩, fun _ _ _ => rfl⟩
  · by_cases z : l' = l
    · subst z; rw [put_same, ← hl, e]
    · rw [put_ne (R.ne ((lv l').mp (nn e)) (nn h) z)]
      rw [hne l' z] at e
      exact R.at_ e
  · by_cases z : b = A l
    · rw [z, put_same]; exact nofun
    · rw [put_ne z]; exact hb
/-- a thing more -/
theorem Rep.new (R : Rep A C S) (hp : S p = none) (h0 : C l = none) (hA : A' l = p) (hA' : ∀ l', C l' ≠ none → A' l' = A l') (hl : C' l = some o') (hne : ∀ l', l' ≠ l → C' l' = C l') : Tr pin A C S A' C' (put S p o') := by
  have lv : ∀ l', l' ≠ l → C' l' ≠ none → C l' ≠ none := fun l' z h => by rw [← hne l' z]; exact h
  refine ⟨⟨fun {l' u} e => ?_, fun {l1 l2} h1 h2 e => ?_⟩, fun b hb _ => put_ne (fun z => hb (by rw [z]; exact hp)), fun b hb => ?_, fun l' h' => ?_, fun l' _ h' => hA' l' h'⟩
  · by_cases z : l' = l
    · subst z; rw [hA, put_same, ← hl, e]
    · have h1 := lv l' z (nn e)
      rw [hne l' z] at e
      rw [hA' l' h1, put_ne (sto_ne (R.at_ e) hp)]
      exact R.at_ e
  · by_cases z1 : l1 = l
    · by_cases z2 : l2 = l
      · rw [z1, z2]
      · have g := lv l2 z2 h2
        rw [z1, hA, hA' l2 g] at e
        exact absurd hp (by rw [e]; exact R.live g)
    · have g1 := lv l1 z1 h1
      by_cases z2 : l2 = l
      · rw [z2, hA, hA' l1 g1] at e
        exact absurd hp (by rw [← e]; exact R.live g1)
      · have g2 := lv l2 z2 h2
        rw [hA' l1 g1, hA' l2 g2] at e
        exact R.inj g1 g2 e
  · rw [put_ne (fun z => hb (by rw [z]; exact hp))]; exact hb
  · by_cases z : l' = l
    · exact .inr (by rw [z, hA]; exact hp)
    · have := lv l' z h'
      exact .inl ⟨this, hA' l' this⟩
/-- something counts no more -/
theorem Rep.sub (R : Rep A C S) (h : ∀ l o, C' l = some o → C l = some o) : Tr pin A C S A C' S := by
  have lv : ∀ l, C' l ≠ none → C l ≠ none := fun l hl => by
    cases e : C' l with
    | none => exact absurd e hl
    | some o => exact nn (h l o e)
  exact ⟨⟨fun {l o} e => R.at_ (h l o e), fun {l1 l2} h1 h2 => R.inj (lv l1 h1) (lv l2 h2)⟩, fun _ _ _ => rfl, fun _ hb => hb, fun l hl => .inl ⟨lv l hl, rfl⟩, fun _ _ _ => rfl⟩
/-- what stands elsewhere -/
theorem Tr.other (T : Tr pin A C S A' C' S') {b : Addr} {u : O} (h : S b = some u) (hb : ∀ l, C l ≠ none → b ≠ A l) : S' b = some u := by rw [T.fr b (nn h) hb]; exact h
end
/-! two kinds of places beside one another -/
def Apart {L M : Type} (A : L → Addr) (C : L → Option O) (B : M → Addr) (E : M → Option O) : Prop := ∀ l m, C l ≠ none → E m ≠ none → A l ≠ B m
section
variable {L M : Type} {pin : L → Prop} {A A' : L → Addr} {C C' : L → Option O} {B B' : M → Addr} {E E' : M → Option O} {S S' : Sto}
theorem Apart.symm (h : Apart A C B E) : Apart B E A C := fun m l a b z => h l m b a z.symm
theorem Tr.keepR (T : Tr pin A C S A' C' S') (R : Rep B E S) (P : Apart A C B E) : Rep B E S' ∧ Apart A' C' B E := by
  refine ⟨⟨fun {m u} e => T.other (R.at_ e) fun l hl z => P l m hl (nn e) z.symm, R.inj⟩, fun l m hl hm z => ?_⟩
  rcases T.ext l hl with ⟨h1, h2⟩ | h1
  · exact P l m h1 hm (h2.symm.trans z)
  · rw [z] at h1; exact R.live hm h1
end
def fset {α : Type} (f : Nat → α) (n : Nat) (v : α) : Nat → α := fun i => if i = n then v else f i
section
variable {α : Type} {f : Nat → α} {n i : Nat} {v w : α}
theorem fset_same : fset f n v n = v := by unfold fset; rw [if_pos rfl]
theorem fset_ne (h : i ≠ n) : fset f n v i = f i := by unfold fset; rw [if_neg h]
theorem fset_id : fset f n (f n) = f := by
  funext i
  unfold fset
  split
  · rename_i h; rw [h]
  · rfl
end
end DL

set_option Elab.async false
set_option linter.all false
set_option maxRecDepth 100000
/-! ### halls: states, and how they go on (no program in sight) -/
namespace HM
open PySem L2 DL
/-- no thing -/
inductive NoTh : D → Prop where
  | non : NoTh .non
  | int (i : Int) : NoTh (.int i)
  | str (s : Str) (h : PyData.strOk s = true) : NoTh (.str s)
  | bl (b : Bool) : NoTh (.bl b)
/-- a value in a hall -/
inductive Vl where
  | no (d : D) | th (n : Nat)
structure Hs where
  many : Nat
  cnt : Nat → Int
  parts : Nat → List (Key × Vl)
  form : Nat → D
  own : Nat → D
  there : List Nat
  left : List Nat
  row : Option (List Nat)
  lasts : Nat
  waits : List Nat
  asked : List Nat
  rest : List Nat
  outer : List Nat
  mine : List Nat
  ends : List Nat
  told : List D
def VOk (m : Nat) : Vl → Prop
  | .no d => NoTh d
  | .th j => 1 ≤ j ∧ j ≤ m
structure Wf (s : Hs) : Prop where
  nd : s.there.Nodup
  tin : ∀ n ∈ s.there, 1 ≤ n ∧ n ≤ s.many
  len : s.there.length + s.left.length ≤ s.many
  most : s.many ≤ 5000
  key : ∀ n, ((s.parts n).map (·.1)).Nodup
  plen : ∀ n, (s.parts n).length ≤ 90000
  pv : ∀ n, ∀ kv ∈ s.parts n, VOk s.many kv.2
  wnd : s.waits.Nodup
  win : ∀ n ∈ s.waits, 1 ≤ n ∧ n ≤ s.many
  rnd : ∀ l, s.row = some l → l.Nodup ∧ ∀ n ∈ l, n ∈ s.waits
  pz : ∀ n, s.many < n → s.parts n = []
  az : ∀ n ∈ s.asked, n ≤ s.many
  kok : ∀ n, ∀ kv ∈ s.parts n, (dK kv.1).any = true
def Hs.dec (s : Hs) (n : Nat) : Hs := { s with cnt := fset s.cnt n (s.cnt n - 1) }
def Hs.inc (s : Hs) (n : Nat) : Hs := { s with cnt := fset s.cnt n (s.cnt n + 1) }
def Hs.held (s : Hs) : Vl → Hs
  | .no _ => s
  | .th n => s.inc n
/-- a thing that is let go now -/
def Hs.enqs (s : Hs) (n : Nat) : Bool := decide (s.cnt n = 0) && decide (n ∈ s.there) && !decide (n ∈ s.waits)
def Hs.enq (s : Hs) (n : Nat) : Hs := { s with waits := s.waits ++ [n], row := s.row.map (· ++ [n]) }
/-- a hold less, a row being at work -/
def Hs.loosed (s : Hs) : Vl → Hs
  | .no _ => s
  | .th n => if (s.dec n).enqs n = true then (s.dec n).enq n else s.dec n
/-- n's parts taken out one by one -/
def Hs.emptied (s : Hs) (n : Nat) : List (Key × Vl) → Hs
  | [] => s
  | kv :: l => (({ s with parts := fset s.parts n l } : Hs).loosed kv.2).emptied n l
def Hs.gone (s : Hs) (n : Nat) : Hs := { s with there := s.there.filter (fun i => decide (i ≠ n)), left := s.left ++ [n], rest := s.rest ++ [n] }
def Hs.bare (s : Hs) (n : Nat) : Hs := { s with rest := s.rest.filter fun i => decide (i ≠ n) }
def Hs.up (s : Hs) (n : Nat) : Hs := { s with cnt := fset s.cnt n (s.cnt n + 1), outer := s.outer ++ [n] }
def Hs.down (s : Hs) (n : Nat) : Hs := { s with cnt := fset s.cnt n (s.cnt n - 1), outer := s.outer.erase n }
def Hs.unwait (s : Hs) (n : Nat) : Hs := { s with waits := s.waits.erase n }
abbrev AskR := Hs → Nat → Hs → Prop
inductive Turn (ask : AskR) : Hs → Nat → Hs → Prop where
  | pass {s : Hs} {n : Nat} : (0 < s.cnt n ∨ n ∉ s.there) → Turn ask s n (s.unwait n)
  | stay {s s1 : Hs} {n : Nat} : ¬ (0 < s.cnt n ∨ n ∉ s.there) → ask ((s.unwait n).up n) n s1 → (s1.down n).cnt n ≠ 0 → Turn ask s n (s1.down n)
  | go {s s1 : Hs} {n : Nat} : ¬ (0 < s.cnt n ∨ n ∉ s.there) → ask ((s.unwait n).up n) n s1 → (s1.down n).cnt n = 0 → Turn ask s n ((((s1.down n).gone n).emptied n (s1.parts n)).bare n)
/-- a row worked off, by so many turns -/
inductive Work (ask : AskR) : Nat → Hs → Hs → Prop where
  | done {s : Hs} : s.row = some [] → Work ask 0 s { s with row := none }
  | step {f n : Nat} {r : List Nat} {s s1 s2 : Hs} : s.row = some (n :: r) → Turn ask { s with row := some r } n s1 → Work ask f s1 s2 → Work ask (f + 1) s s2
inductive Loose (ask : AskR) : Hs → Vl → Hs → Prop where
  | no {s : Hs} {d : D} : Loose ask s (.no d) s
  | kept {s : Hs} {n : Nat} : (s.dec n).enqs n = false → Loose ask s (.th n) (s.dec n)
  | wait {s : Hs} {n : Nat} : (s.dec n).enqs n = true → s.row ≠ none → Loose ask s (.th n) ((s.dec n).enq n)
  | work {s s' : Hs} {n f : Nat} : (s.dec n).enqs n = true → s.row = none → Work ask f { (s.dec n).enq n with row := some [n] } s' → Loose ask s (.th n) s'
/-- what is asked of how lasts are asked -/
structure AskOk (ask : AskR) : Prop where
  wf : ∀ {s n s'}, ask s n s' → Wf s → n ∈ s.there → Wf s'
  row : ∀ {s n s'}, ask s n s' → s'.row = s.row
  waits : ∀ {s n s'}, ask s n s' → s'.waits = s.waits
  many : ∀ {s n s'}, ask s n s' → s.many ≤ s'.many
  stay : ∀ {s n s'}, ask s n s' → n ∈ s.there → n ∈ s'.there
def askNo : AskR := fun s _ s' => s' = s
theorem askNo_ok : AskOk askNo := ⟨fun h w _ => h ▸ w, fun h => h ▸ rfl, fun h => h ▸ rfl, fun h => h ▸ Nat.le_refl _, fun h i => h ▸ i⟩
/-! states that are well made -/
theorem enqs_iff {s : Hs} {n : Nat} : s.enqs n = true ↔ s.cnt n = 0 ∧ n ∈ s.there ∧ n ∉ s.waits := by
  unfold Hs.enqs
  simp [and_assoc]
section
variable {s : Hs} {n : Nat}
theorem Wf.dec (w : Wf s) (n : Nat) : Wf (s.dec n) := ⟨w.nd, w.tin, w.len, w.most, w.key, w.plen, w.pv, w.wnd, w.win, w.rnd, w.pz, w.az, w.kok⟩
theorem Wf.inc (w : Wf s) (n : Nat) : Wf (s.inc n) := ⟨w.nd, w.tin, w.len, w.most, w.key, w.plen, w.pv, w.wnd, w.win, w.rnd, w.pz, w.az, w.kok⟩
theorem Wf.up (w : Wf s) (n : Nat) : Wf (s.up n) := ⟨w.nd, w.tin, w.len, w.most, w.key, w.plen, w.pv, w.wnd, w.win, w.rnd, w.pz, w.az, w.kok⟩
theorem Wf.down (w : Wf s) (n : Nat) : Wf (s.down n) := ⟨w.nd, w.tin, w.len, w.most, w.key, w.plen, w.pv, w.wnd, w.win, w.rnd, w.pz, w.az, w.kok⟩
theorem Wf.bare (w : Wf s) (n : Nat) : Wf (s.bare n) := ⟨w.nd, w.tin, w.len, w.most, w.key, w.plen, w.pv, w.wnd, w.win, w.rnd, w.pz, w.az, w.kok⟩
theorem Wf.enq (w : Wf s) (h : s.enqs n = true) : Wf (s.enq n) := by
  obtain ⟨_, h2, h3⟩ := enqs_iff.mp h
  refine ⟨w.nd, w.tin, w.len, w.most, w.key, w.plen, w.pv, ?_, fun i hi => ?_, fun l hl => ?_, w.pz, w.az, w.kok⟩
  · exact List.nodup_append.mpr ⟨w.wnd, by simp, fun a ha b hb e => h3 (by rw [← List.mem_singleton.mp hb, ← e]; exact ha)⟩
  · rcases List.mem_append.mp hi with hi | hi
    · exact w.win i hi
    · rw [List.mem_singleton.mp hi]; exact w.tin n h2
  · obtain ⟨l0, h0, rfl⟩ := Option.map_eq_some_iff.mp (show s.row.map (· ++ [n]) = some l from hl)
    obtain ⟨r1, r2⟩ := w.rnd l0 h0
    refine ⟨List.nodup_append.mpr ⟨r1, by simp, fun a ha b hb e => h3 (by rw [← List.mem_singleton.mp hb, ← e]; exact r2 a ha)⟩, fun i hi => ?_⟩
    show i ∈ s.waits ++ [n]
    rcases List.mem_append.mp hi with hi | hi
    · exact List.mem_append_left _ (r2 i hi)
    · exact List.mem_append_right _ hi
theorem loosed_th (s : Hs) (n : Nat) : s.loosed (.th n) = if (s.dec n).enqs n = true then (s.dec n).enq n else s.dec n := rfl
theorem Wf.loosed (w : Wf s) (v : Vl) : Wf (s.loosed v) := by
  cases v with
  | no d => exact w
  | th n =>
    rw [loosed_th]
    split
    · rename_i h; exact (w.dec n).enq h
    · exact w.dec n
theorem Wf.part (w : Wf s) {n : Nat} {kv : Key × Vl} {l : List (Key × Vl)} (h : s.parts n = kv :: l) : Wf { s with parts := fset s.parts n l } := by
  refine ⟨w.nd, w.tin, w.len, w.most, fun i => ?_, fun i => ?_, fun i kv' hk => ?_, w.wnd, w.win, w.rnd, fun i hi => ?_, w.az, fun i kv' hk => ?_⟩
  rotate_right
  · have hk' : kv' ∈ fset s.parts n l i := hk
    by_cases z : i = n
    · subst z
      rw [fset_same] at hk'
      exact w.kok i kv' (by rw [h]; exact List.mem_cons_of_mem _ hk')
    · rw [fset_ne z] at hk'; exact w.kok i kv' hk'
  rotate_right
  · show fset s.parts n l i = []
    by_cases z : i = n
    · subst z
      have := w.pz i hi
      rw [h] at this
      cases this
    · rw [fset_ne z]; exact w.pz i hi
  · show ((fset s.parts n l i).map (·.1)).Nodup
    by_cases z : i = n
    · subst z
      rw [fset_same]
      have := w.key i
      rw [h, List.map_cons] at this
      exact (List.nodup_cons.mp this).2
    · rw [fset_ne z]; exact w.key i
  · show (fset s.parts n l i).length ≤ _
    by_cases z : i = n
    · subst z
      rw [fset_same]
      have := w.plen i
      rw [h, List.length_cons] at this
      omega
    · rw [fset_ne z]; exact w.plen i
  · by_cases z : i = n
    · subst z
      rw [show ({ s with parts := fset s.parts i l } : Hs).parts i = l from fset_same] at hk
      exact w.pv i kv' (by rw [h]; exact List.mem_cons_of_mem _ hk)
    · rw [show ({ s with parts := fset s.parts n l } : Hs).parts i = s.parts i from fset_ne z] at hk
      exact w.pv i kv' hk
theorem loosed_parts (s : Hs) (v : Vl) : (s.loosed v).parts = s.parts := by
  cases v with
  | no d => rfl
  | th n => rw [loosed_th]; split <;> rfl
theorem loosed_many (s : Hs) (v : Vl) : (s.loosed v).many = s.many := by
  cases v with
  | no d => rfl
  | th n => rw [loosed_th]; split <;> rfl
theorem loosed_there (s : Hs) (v : Vl) : (s.loosed v).there = s.there := by
  cases v with
  | no d => rfl
  | th n => rw [loosed_th]; split <;> rfl
theorem loosed_row (s : Hs) (v : Vl) : (s.loosed v).row = none ↔ s.row = none := by
  cases v with
  | no d => exact Iff.rfl
  | th n =>
    rw [loosed_th]
    split
    · show s.row.map _ = none ↔ _
      simp
    · exact Iff.rfl
theorem Wf.emptied : ∀ {l : List (Key × Vl)} {s : Hs}, Wf s → s.parts n = l → Wf (s.emptied n l)
  | [], s, w, _ => w
  | kv :: l, s, w, h => by
    refine Wf.emptied (l := l) ((w.part h).loosed kv.2) ?_
    rw [loosed_parts]
    exact fset_same
theorem emptied_many : ∀ (l : List (Key × Vl)) (s : Hs), (s.emptied n l).many = s.many
  | [], s => rfl
  | kv :: l, s => by
    show ((({ s with parts := fset s.parts n l } : Hs).loosed kv.2).emptied n l).many = _
    rw [emptied_many l, loosed_many]
theorem emptied_row : ∀ (l : List (Key × Vl)) (s : Hs), (s.emptied n l).row = none ↔ s.row = none
  | [], s => Iff.rfl
  | kv :: l, s => by
    show ((({ s with parts := fset s.parts n l } : Hs).loosed kv.2).emptied n l).row = none ↔ _
    rw [emptied_row l, loosed_row]
theorem Wf.gone (w : Wf s) (h : n ∈ s.there) : Wf (s.gone n) := by
  refine ⟨w.nd.sublist List.filter_sublist, fun i hi => w.tin i (List.mem_filter.mp hi).1, ?_, w.most, w.key, w.plen, w.pv, w.wnd, w.win, w.rnd, w.pz, w.az, w.kok⟩
  show (s.there.filter fun i => decide (i ≠ n)).length + (s.left ++ [n]).length ≤ s.many
  have h1 : (s.there.filter fun i => decide (i ≠ n)).length < s.there.length := List.length_filter_lt_length_iff_exists.mpr ⟨n, h, by simp⟩
  have := w.len
  rw [List.length_append, List.length_singleton]
  omega
theorem Wf.unwait (w : Wf s) (h : ∀ l, s.row = some l → n ∉ l) : Wf (s.unwait n) := by
  refine ⟨w.nd, w.tin, w.len, w.most, w.key, w.plen, w.pv, w.wnd.erase _, fun i hi => w.win i (List.mem_of_mem_erase hi), fun l hl => ?_, w.pz, w.az, w.kok⟩
  obtain ⟨r1, r2⟩ := w.rnd l hl
  refine ⟨r1, fun i hi => ?_⟩
  exact (List.mem_erase_of_ne (fun z : i = n => h l hl (z ▸ hi))).mpr (r2 i hi)
theorem Wf.rowTail (w : Wf s) {r : List Nat} (h : s.row = some (n :: r)) : Wf { s with row := some r } ∧ n ∉ r ∧ n ∈ s.waits := by
  obtain ⟨r1, r2⟩ := w.rnd _ h
  obtain ⟨r3, r4⟩ := List.nodup_cons.mp r1
  refine ⟨⟨w.nd, w.tin, w.len, w.most, w.key, w.plen, w.pv, w.wnd, w.win, fun l hl => ?_, w.pz, w.az, w.kok⟩, r3, r2 n (List.mem_cons_self ..)⟩
  cases hl
  exact ⟨r4, fun i hi => r2 i (List.mem_cons_of_mem _ hi)⟩
end
section
variable {ask : AskR} (K : AskOk ask) {s s' : Hs} {n : Nat}
include K
theorem Turn.wf (t : Turn ask s n s') (w : Wf s) (h : ∀ l, s.row = some l → n ∉ l) : Wf s' ∧ s.many ≤ s'.many := by
  cases t with
  | pass _ => exact ⟨w.unwait h, Nat.le_refl _⟩
  | stay h1 h2 h3 =>
    rename_i s1
    have hn : n ∈ s.there := Classical.not_not.mp fun z => h1 (.inr z)
    exact ⟨(K.wf h2 ((w.unwait h).up n) hn).down n, by have := K.many h2; exact this⟩
  | go h1 h2 h3 =>
    rename_i s1
    have hn : n ∈ s.there := Classical.not_not.mp fun z => h1 (.inr z)
    have w1 := (K.wf h2 ((w.unwait h).up n) hn).down n
    have hs := K.stay h2 hn
    refine ⟨((w1.gone hs).emptied rfl).bare n, ?_⟩
    show s.many ≤ (((s1.down n).gone n).emptied n (s1.parts n)).many
    rw [emptied_many]
    have := K.many h2
    exact this
theorem Work.wf {f : Nat} (t : Work ask f s s') (w : Wf s) : Wf s' ∧ s.many ≤ s'.many := by
  induction t with
  | done h => exact ⟨⟨w.nd, w.tin, w.len, w.most, w.key, w.plen, w.pv, w.wnd, w.win, fun l hl => (nomatch hl), w.pz, w.az, w.kok⟩, Nat.le_refl _⟩
  | step h1 h2 h3 ih =>
    obtain ⟨w1, w2, _⟩ := w.rowTail h1
    obtain ⟨w3, w4⟩ := h2.wf K w1 fun l hl => by cases hl; exact w2
    obtain ⟨w5, w6⟩ := ih w3
    exact ⟨w5, Nat.le_trans w4 w6⟩
theorem Loose.wf {v : Vl} (t : Loose ask s v s') (w : Wf s) : Wf s' ∧ s.many ≤ s'.many := by
  cases t with
  | no => exact ⟨w, Nat.le_refl _⟩
  | kept h => exact ⟨w.dec _, Nat.le_refl _⟩
  | wait h _ => exact ⟨(w.dec _).enq h, Nat.le_refl _⟩
  | work h h1 h2 =>
    rename_i n f
    have w1 := (w.dec n).enq h
    exact h2.wf K ⟨w1.nd, w1.tin, w1.len, w1.most, w1.key, w1.plen, w1.pv, w1.wnd, w1.win, fun l hl => by
      cases hl
      exact ⟨by simp, fun i hi => by rw [List.mem_singleton.mp hi]; exact List.mem_append_right _ (List.mem_singleton.mpr rfl)⟩, w1.pz, w1.az, w1.kok⟩
end
/-! a thing made; a part put, taken -/
def Hs.made (s : Hs) (form own : D) : Hs := { s with many := s.many + 1, cnt := fset s.cnt (s.many + 1) 0, form := fset s.form (s.many + 1) form, own := fset s.own (s.many + 1) own, there := s.there ++ [s.many + 1] }
theorem Wf.made {s : Hs} (w : Wf s) (h : s.many < 5000) (form own : D) : Wf (s.made form own) := by
  refine ⟨?_, fun i hi => ?_, ?_, by show s.many + 1 ≤ 5000; omega, w.key, w.plen, fun n kv hk => ?_, w.wnd, fun i hi => ?_, w.rnd, fun i hi => w.pz i (by have : s.many + 1 < i := hi; omega), fun i hi => ?_, w.kok⟩
  · exact List.nodup_append.mpr ⟨w.nd, by simp, fun a ha b hb e => by have := w.tin a ha; rw [List.mem_singleton.mp hb] at e; omega⟩
  · show 1 ≤ i ∧ i ≤ s.many + 1
    rcases List.mem_append.mp hi with hi | hi
    · have := w.tin i hi; omega
    · rw [List.mem_singleton.mp hi]; omega
  · show (s.there ++ [s.many + 1]).length + s.left.length ≤ s.many + 1
    have := w.len
    rw [List.length_append, List.length_singleton]
    omega
  · have := w.pv n kv hk
    show VOk (s.many + 1) kv.2
    cases e : kv.2 with
    | no d => rw [e] at this; exact this
    | th j => rw [e] at this; exact ⟨this.1, Nat.le_succ_of_le this.2⟩
  · have := w.win i hi
    show 1 ≤ i ∧ i ≤ s.many + 1
    omega
  · have := w.az i hi
    show i ≤ s.many + 1
    omega
def Hs.putP (s : Hs) (n : Nat) (k : Key) (v : Vl) : Hs := { s.held v with parts := fset s.parts n (gput (s.parts n) k v) }
def Hs.dropP (s : Hs) (n : Nat) (k : Key) : Hs := { s with parts := fset s.parts n (gdrop (s.parts n) k) }
def oldP (s : Hs) (n : Nat) (k : Key) : Vl := (gval (s.parts n) k).getD (.no .non)
open Classical in
theorem gput_keys {β : Type} (l : List (Key × β)) (k : Key) (v : β) : (gput l k v).map (·.1) = if k ∈ l.map (·.1) then l.map (·.1) else l.map (·.1) ++ [k] := by
  unfold gput
  by_cases h : k ∈ l.map (·.1)
  · obtain ⟨kv, h1, h2⟩ := List.mem_map.mp h
    rw [if_pos h, if_pos (List.any_eq_true.mpr ⟨kv, h1, by simpa using h2⟩), List.map_map]
    refine List.map_congr_left fun x _ => ?_
    show (if x.1 = k then (x.1, v) else x).1 = x.1
    split <;> rfl
  · rw [if_neg h, if_neg, List.map_append, List.map_singleton]
    intro z
    obtain ⟨kv, h1, h2⟩ := List.any_eq_true.mp z
    exact h (List.mem_map.mpr ⟨kv, h1, by simpa using h2⟩)
theorem gput_mem {β : Type} {l : List (Key × β)} {k : Key} {v : β} {x : Key × β} (h : x ∈ gput l k v) : x ∈ l ∨ x.2 = v := by
  unfold gput at h
  split at h
  · obtain ⟨y, h1, h2⟩ := List.mem_map.mp h
    split at h2
    · exact .inr (by rw [← h2])
    · exact .inl (by rw [← h2]; exact h1)
  · rcases List.mem_append.mp h with h | h
    · exact .inl h
    · exact .inr (by rw [List.mem_singleton.mp h])
theorem Wf.held {s : Hs} (w : Wf s) (v : Vl) : Wf (s.held v) := by
  cases v with
  | no d => exact w
  | th n => exact w.inc n
theorem held_many (s : Hs) (v : Vl) : (s.held v).many = s.many := by cases v <;> rfl
theorem held_parts (s : Hs) (v : Vl) : (s.held v).parts = s.parts := by cases v <;> rfl
theorem Wf.setParts {s : Hs} (w : Wf s) {n : Nat} (hn : n ≤ s.many) {l : List (Key × Vl)} (h1 : (l.map (·.1)).Nodup) (h2 : l.length ≤ 90000) (h3 : ∀ kv ∈ l, VOk s.many kv.2) (h4 : ∀ kv ∈ l, (dK kv.1).any = true) : Wf { s with parts := fset s.parts n l } := by
  refine ⟨w.nd, w.tin, w.len, w.most, fun i => ?_, fun i => ?_, fun i kv hk => ?_, w.wnd, w.win, w.rnd, fun i hi => ?_, w.az, fun i kv hk => ?_⟩
  rotate_right
  · have hk' : kv ∈ fset s.parts n l i := hk
    by_cases z : i = n
    · subst z; rw [fset_same] at hk'; exact h4 kv hk'
    · rw [fset_ne z] at hk'; exact w.kok i kv hk'
  · show ((fset s.parts n l i).map (·.1)).Nodup
    by_cases z : i = n
    · subst z; rw [fset_same]; exact h1
    · rw [fset_ne z]; exact w.key i
  · show (fset s.parts n l i).length ≤ _
    by_cases z : i = n
    · subst z; rw [fset_same]; exact h2
    · rw [fset_ne z]; exact w.plen i
  · have hk' : kv ∈ fset s.parts n l i := hk
    show VOk s.many kv.2
    by_cases z : i = n
    · subst z; rw [fset_same] at hk'; exact h3 kv hk'
    · rw [fset_ne z] at hk'; exact w.pv i kv hk'
  · show fset s.parts n l i = []
    rw [fset_ne (by have : s.many < i := hi; omega)]
    exact w.pz i hi
theorem gput_key {β : Type} {l : List (Key × β)} {k : Key} {v : β} {x : Key × β} (h : x ∈ gput l k v) : (∃ y ∈ l, y.1 = x.1) ∨ x.1 = k := by
  unfold gput at h
  split at h
  · obtain ⟨y, h1, h2⟩ := List.mem_map.mp h
    refine .inl ⟨y, h1, ?_⟩
    split at h2
    · rw [← h2]
    · rw [← h2]
  · rcases List.mem_append.mp h with h | h
    · exact .inl ⟨x, h, rfl⟩
    · exact .inr (by rw [List.mem_singleton.mp h])
theorem Wf.putP {s : Hs} (w : Wf s) {n : Nat} {k : Key} {v : Vl} (hn : n ≤ s.many) (hv : VOk s.many v) (hk : (dK k).any = true) (hl : (s.parts n).length < 90000) : Wf (s.putP n k v) := by
  have h := (w.held v).setParts (n := n) (l := gput (s.parts n) k v) (by rw [held_many]; exact hn) ?_ ?_ ?_ ?_
  · rw [held_parts] at h; exact h
  · rw [gput_keys]
    split
    · exact w.key n
    · rename_i hk
      exact List.nodup_append.mpr ⟨w.key n, by simp, fun a ha b hb e => hk (by rw [← List.mem_singleton.mp hb, ← e]; exact ha)⟩
  · have := congrArg List.length (gput_keys (s.parts n) k v)
    rw [List.length_map] at this
    rw [this]
    split
    · rw [List.length_map]; omega
    · rw [List.length_append, List.length_map, List.length_singleton]; omega
  · intro kv hk
    rw [held_many]
    rcases gput_mem hk with h | h
    · exact w.pv n kv h
    · rw [h]; exact hv
  · intro kv hk'
    rcases gput_key hk' with ⟨y, h1, h2⟩ | h
    · rw [← h2]; exact w.kok n y h1
    · rw [h]; exact hk
theorem Wf.dropP {s : Hs} (w : Wf s) {n : Nat} {k : Key} (hn : n ≤ s.many) : Wf (s.dropP n k) := by
  refine w.setParts hn ?_ ?_ ?_ fun kv hk => w.kok n kv (List.mem_filter.mp hk).1
  · exact (w.key n).sublist (List.filter_sublist.map _)
  · exact Nat.le_trans (List.length_filter_le ..) (w.plen n)
  · exact fun kv hk => w.pv n kv (List.mem_filter.mp hk).1
theorem oldP_ok {s : Hs} (w : Wf s) (n : Nat) (k : Key) : VOk s.many (oldP s n k) := by
  unfold oldP gval
  cases e : (s.parts n).find? fun kv => decide (kv.1 = k) with
  | none => exact NoTh.non
  | some kv => exact w.pv n kv (List.mem_of_find?_eq_some e)
end HM

set_option Elab.async false
set_option linter.all false
set_option maxRecDepth 100000
/-! ### a hall in the store -/
namespace HM
open PySem L2 DL
def thFs (form num cnt parts own ended waits : D) : List (Str × D) := [("form", form), ("number", num), ("count", cnt), ("parts", parts), ("own", own), ("ended", ended), ("waits", waits)]
def haFs (ender many there left row lasts : D) : List (Str × D) := [("ender", ender), ("many", many), ("there", there), ("left", left), ("row", row), ("lasts", lasts)]
section
variable {a b c d e f g x : D}
theorem th_number : (thFs a b c d e f g).lookup ("number" : Str) = some b := rfl
theorem th_count : (thFs a b c d e f g).lookup ("count" : Str) = some c := rfl
theorem th_parts : (thFs a b c d e f g).lookup ("parts" : Str) = some d := rfl
theorem th_own : (thFs a b c d e f g).lookup ("own" : Str) = some e := rfl
theorem th_waits : (thFs a b c d e f g).lookup ("waits" : Str) = some g := rfl
theorem th_count' : putFD "count" x (thFs a b c d e f g) = thFs a b x d e f g := rfl
theorem th_waits' : putFD "waits" x (thFs a b c d e f g) = thFs a b c d e f x := rfl
theorem ha_ender : (haFs a b c d e f).lookup ("ender" : Str) = some a := rfl
theorem ha_many : (haFs a b c d e f).lookup ("many" : Str) = some b := rfl
theorem ha_there : (haFs a b c d e f).lookup ("there" : Str) = some c := rfl
theorem ha_left : (haFs a b c d e f).lookup ("left" : Str) = some d := rfl
theorem ha_row : (haFs a b c d e f).lookup ("row" : Str) = some e := rfl
theorem ha_lasts : (haFs a b c d e f).lookup ("lasts" : Str) = some f := rfl
theorem ha_many' : putFD "many" x (haFs a b c d e f) = haFs a x c d e f := rfl
theorem ha_row' : putFD "row" x (haFs a b c d e f) = haFs a b c d x f := rfl
end
inductive HL where
  | hall | th | lf | row | t (n : Nat) | pd (n : Nat)
  deriving DecidableEq
structure HA where
  a : HL → Addr
  dx : Addr
  dt : Nat → Addr
def vD (H : HA) : Vl → D
  | .no d => d
  | .th n => .ref (H.a (.t n))
def rowD (H : HA) : Option (List Nat) → D
  | none => .non
  | some _ => .ref (H.a .row)
def hallO (CH : Addr) (en : D) (H : HA) (s : Hs) : O := .ins CH H.dx (haFs en (.int (s.many : Int)) (.ref (H.a .th)) (.ref (H.a .lf)) (rowD H s.row) (.int (s.lasts : Int)))
def thereO (H : HA) (l : List Nat) : O := .dct (l.map fun n : Nat => ((.inl (n : Int), .ref (H.a (.t n))) : Key × D))
def leftO (l : List Nat) : O := .lst (l.map fun n : Nat => .int (n : Int))
def rowO (H : HA) (l : List Nat) : O := .lst (l.map fun n => .ref (H.a (.t n)))
def thingO (CT : Addr) (H : HA) (s : Hs) (n : Nat) : O := .ins CT (H.dt n) (thFs (s.form n) (.int (n : Int)) (.int (s.cnt n)) (.ref (H.a (.pd n))) (s.own n) (.bl (decide (n ∈ s.asked))) (.bl (decide (n ∈ s.waits))))
def partsO (H : HA) (l : List (Key × Vl)) : O := .dct (l.map fun kv => ((kv.1, vD H kv.2) : Key × D))
def hC (CT CH : Addr) (en : D) (H : HA) (s : Hs) : HL → Option O
  | .hall => some (hallO CH en H s)
  | .th => some (thereO H s.there)
  | .lf => some (leftO s.left)
  | .row => s.row.map (rowO H)
  | .t n => if 1 ≤ n ∧ n ≤ s.many then some (thingO CT H s n) else none
  | .pd n => if 1 ≤ n ∧ n ≤ s.many then some (partsO H (s.parts n)) else none
/-- a hall stands in the store -/
abbrev HRep (CT CH : Addr) (en : D) (H : HA) (s : Hs) (S : Sto) : Prop := Rep H.a (hC CT CH en H s) S
structure HTr (CT CH : Addr) (en : D) (H : HA) (s : Hs) (S : Sto) (H' : HA) (s' : Hs) (S' : Sto) : Prop where
  tr : Tr (fun l => l ≠ HL.row) H.a (hC CT CH en H s) S H'.a (hC CT CH en H' s') S'
  many : s.many ≤ s'.many
section
variable {CT CH : Addr} {en : D} {H H' H2 : HA} {s s' s2 : Hs} {S S' S2 : Sto} {n : Nat}
theorem hC_t (h1 : 1 ≤ n) (h2 : n ≤ s.many) : hC CT CH en H s (.t n) = some (thingO CT H s n) := if_pos ⟨h1, h2⟩
theorem hC_pd (h1 : 1 ≤ n) (h2 : n ≤ s.many) : hC CT CH en H s (.pd n) = some (partsO H (s.parts n)) := if_pos ⟨h1, h2⟩
theorem hrep_hall (R : HRep CT CH en H s S) : S (H.a .hall) = some (.ins CH H.dx (haFs en (.int (s.many : Int)) (.ref (H.a .th)) (.ref (H.a .lf)) (rowD H s.row) (.int (s.lasts : Int)))) := R.at_ (l := .hall) rfl
theorem hrep_th (R : HRep CT CH en H s S) : S (H.a .th) = some (.dct (s.there.map fun n : Nat => ((.inl (n : Int), .ref (H.a (.t n))) : Key × D))) := R.at_ (l := .th) rfl
theorem hrep_lf (R : HRep CT CH en H s S) : S (H.a .lf) = some (.lst (s.left.map fun n : Nat => .int (n : Int))) := R.at_ (l := .lf) rfl
theorem hrep_row (R : HRep CT CH en H s S) {l : List Nat} (h : s.row = some l) : S (H.a .row) = some (.lst (l.map fun n => .ref (H.a (.t n)))) := R.at_ (l := .row) (by show s.row.map (rowO H) = _; rw [h]; rfl)
theorem hrep_t (R : HRep CT CH en H s S) (h1 : 1 ≤ n) (h2 : n ≤ s.many) : S (H.a (.t n)) = some (.ins CT (H.dt n) (thFs (s.form n) (.int (n : Int)) (.int (s.cnt n)) (.ref (H.a (.pd n))) (s.own n) (.bl (decide (n ∈ s.asked))) (.bl (decide (n ∈ s.waits))))) := R.at_ (hC_t h1 h2)
theorem hrep_pd (R : HRep CT CH en H s S) (h1 : 1 ≤ n) (h2 : n ≤ s.many) : S (H.a (.pd n)) = some (.dct ((s.parts n).map fun kv => ((kv.1, vD H kv.2) : Key × D))) := R.at_ (hC_pd h1 h2)
theorem hC_live {l : HL} (hl : l ≠ .row) (hm : s.many ≤ s'.many) (h : hC CT CH en H s l ≠ none) : hC CT CH en H' s' l ≠ none := by
  cases l with
  | hall => exact nofun
  | th => exact nofun
  | lf => exact nofun
  | row => exact absurd rfl hl
  | t n =>
    have h' : (if 1 ≤ n ∧ n ≤ s.many then some (thingO CT H s n) else none) ≠ none := h
    show (if 1 ≤ n ∧ n ≤ s'.many then some (thingO CT H' s' n) else none) ≠ none
    split at h'
    · rename_i hn; rw [if_pos ⟨hn.1, Nat.le_trans hn.2 hm⟩]; exact nofun
    · exact absurd rfl h'
  | pd n =>
    have h' : (if 1 ≤ n ∧ n ≤ s.many then some (partsO H (s.parts n)) else none) ≠ none := h
    show (if 1 ≤ n ∧ n ≤ s'.many then some (partsO H' (s'.parts n)) else none) ≠ none
    split at h'
    · rename_i hn; rw [if_pos ⟨hn.1, Nat.le_trans hn.2 hm⟩]; exact nofun
    · exact absurd rfl h'
theorem HTr.rep (T : HTr CT CH en H s S H' s' S') : HRep CT CH en H' s' S' := T.tr.rep
theorem HTr.refl (R : HRep CT CH en H s S) : HTr CT CH en H s S H s S := ⟨R.refl, Nat.le_refl _⟩
theorem HTr.trans (T : HTr CT CH en H s S H' s' S') (U : HTr CT CH en H' s' S' H2 s2 S2) : HTr CT CH en H s S H2 s2 S2 := ⟨T.tr.trans U.tr fun l hl h => hC_live hl T.many h, Nat.le_trans T.many U.many⟩
theorem HTr.t (T : HTr CT CH en H s S H' s' S') (h1 : 1 ≤ n) (h2 : n ≤ s.many) : H'.a (.t n) = H.a (.t n) := T.tr.keep (.t n) (nofun) (by rw [hC_t h1 h2]; exact nofun)
theorem HTr.hall (T : HTr CT CH en H s S H' s' S') : H'.a .hall = H.a .hall := T.tr.keep .hall (nofun) (nofun)
theorem HTr.pd (T : HTr CT CH en H s S H' s' S') (h1 : 1 ≤ n) (h2 : n ≤ s.many) : H'.a (.pd n) = H.a (.pd n) := T.tr.keep (.pd n) (nofun) (by rw [hC_pd h1 h2]; exact nofun)
/-- what the store does not show -/
theorem HTr.ghost (R : HRep CT CH en H s S) (h : hC CT CH en H s' = hC CT CH en H s) (hm : s'.many = s.many) : HTr CT CH en H s S H s' S := ⟨by rw [h]; exact R.refl, by rw [hm]; exact Nat.le_refl _⟩
theorem HTr.setAt (R : HRep CT CH en H s S) {l : HL} {o o' : O} (h : hC CT CH en H s l = some o) (h' : hC CT CH en H s' l = some o') (hne : ∀ l', l' ≠ l → hC CT CH en H s' l' = hC CT CH en H s l') (hm : s'.many = s.many) : HTr CT CH en H s S H s' (put S (H.a l) o') := ⟨R.set h h' hne, by rw [hm]; exact Nat.le_refl _⟩
/-- a thing's count, waiting, asked -/
theorem HTr.thing (R : HRep CT CH en H s S) (h1 : 1 ≤ n) (h2 : n ≤ s.many) (c : Int) (w a : List Nat) (hw : ∀ i, i ≠ n → (i ∈ w ↔ i ∈ s.waits)) (ha : ∀ i, i ≠ n → (i ∈ a ↔ i ∈ s.asked)) :
    HTr CT CH en H s S H { s with cnt := fset s.cnt n c, waits := w, asked := a } (put S (H.a (.t n)) (.ins CT (H.dt n) (thFs (s.form n) (.int (n : Int)) (.int c) (.ref (H.a (.pd n))) (s.own n) (.bl (decide (n ∈ a))) (.bl (decide (n ∈ w)))))) := by
  refine HTr.setAt R (l := .t n) (hC_t h1 h2) ?_ (fun l' hl => ?_) rfl
  · show (if 1 ≤ n ∧ n ≤ s.many then some (thingO CT H _ n) else none) = _
    rw [if_pos ⟨h1, h2⟩]
    unfold thingO
    simp only [fset_same]
  · cases l' with
    | t i =>
      have z : i ≠ n := fun e => hl (by rw [e])
      show (if 1 ≤ i ∧ i ≤ s.many then some (thingO CT H _ i) else none) = if 1 ≤ i ∧ i ≤ s.many then some (thingO CT H s i) else none
      have : thingO CT H { s with cnt := fset s.cnt n c, waits := w, asked := a } i = thingO CT H s i := by
        unfold thingO
        simp only [fset_ne z]
        rw [decide_eq_decide.mpr (hw i z), decide_eq_decide.mpr (ha i z)]
      rw [this]
    | _ => rfl
theorem HTr.cnt (R : HRep CT CH en H s S) (h1 : 1 ≤ n) (h2 : n ≤ s.many) (c : Int) :
    HTr CT CH en H s S H { s with cnt := fset s.cnt n c } (put S (H.a (.t n)) (.ins CT (H.dt n) (thFs (s.form n) (.int (n : Int)) (.int c) (.ref (H.a (.pd n))) (s.own n) (.bl (decide (n ∈ s.asked))) (.bl (decide (n ∈ s.waits)))))) :=
  HTr.thing R h1 h2 c s.waits s.asked (fun _ _ => Iff.rfl) fun _ _ => Iff.rfl
theorem HTr.wait (R : HRep CT CH en H s S) (h1 : 1 ≤ n) (h2 : n ≤ s.many) (w : List Nat) (hw : ∀ i, i ≠ n → (i ∈ w ↔ i ∈ s.waits)) :
    HTr CT CH en H s S H { s with waits := w } (put S (H.a (.t n)) (.ins CT (H.dt n) (thFs (s.form n) (.int (n : Int)) (.int (s.cnt n)) (.ref (H.a (.pd n))) (s.own n) (.bl (decide (n ∈ s.asked))) (.bl (decide (n ∈ w)))))) := by
  have := HTr.thing R h1 h2 (s.cnt n) w s.asked hw fun _ _ => Iff.rfl
  rw [fset_id] at this
  exact this
theorem HTr.there (R : HRep CT CH en H s S) (l : List Nat) : HTr CT CH en H s S H { s with there := l } (put S (H.a .th) (.dct (l.map fun n : Nat => ((.inl (n : Int), .ref (H.a (.t n))) : Key × D)))) := by
  refine HTr.setAt R (l := .th) rfl rfl (fun l' hl => ?_) rfl
  cases l' with
  | th => exact absurd rfl hl
  | _ => rfl
theorem HTr.left (R : HRep CT CH en H s S) (l : List Nat) : HTr CT CH en H s S H { s with left := l } (put S (H.a .lf) (.lst (l.map fun n : Nat => .int (n : Int)))) := by
  refine HTr.setAt R (l := .lf) rfl rfl (fun l' hl => ?_) rfl
  cases l' with
  | lf => exact absurd rfl hl
  | _ => rfl
theorem HTr.setRow (R : HRep CT CH en H s S) {l0 : List Nat} (h : s.row = some l0) (l : List Nat) : HTr CT CH en H s S H { s with row := some l } (put S (H.a .row) (.lst (l.map fun n => .ref (H.a (.t n))))) := by
  refine HTr.setAt R (l := .row) (o := rowO H l0) (by show s.row.map (rowO H) = _; rw [h]; rfl) rfl (fun l' hl => ?_) rfl
  cases l' with
  | row => exact absurd rfl hl
  | hall => show some (hallO CH en H _) = some (hallO CH en H s); unfold hallO; dsimp only; rw [h]; rfl
  | _ => rfl
theorem HTr.parts (R : HRep CT CH en H s S) (h1 : 1 ≤ n) (h2 : n ≤ s.many) (l : List (Key × Vl)) : HTr CT CH en H s S H { s with parts := fset s.parts n l } (put S (H.a (.pd n)) (.dct (l.map fun kv => ((kv.1, vD H kv.2) : Key × D)))) := by
  refine HTr.setAt R (l := .pd n) (hC_pd h1 h2) ?_ (fun l' hl => ?_) rfl
  · show (if 1 ≤ n ∧ n ≤ s.many then some (partsO H (fset s.parts n l n)) else none) = _
    rw [if_pos ⟨h1, h2⟩, fset_same]
    rfl
  · cases l' with
    | pd i =>
      have z : i ≠ n := fun e => hl (by rw [e])
      show (if 1 ≤ i ∧ i ≤ s.many then some (partsO H (fset s.parts n l i)) else none) = if 1 ≤ i ∧ i ≤ s.many then some (partsO H (s.parts i)) else none
      rw [fset_ne z]
    | _ => rfl
/-- the row is worked off -/
theorem HTr.noRow (R : HRep CT CH en H s S) : HTr CT CH en H s S H { s with row := none } (put S (H.a .hall) (.ins CH H.dx (haFs en (.int (s.many : Int)) (.ref (H.a .th)) (.ref (H.a .lf)) .non (.int (s.lasts : Int))))) := by
  have T1 : Tr (fun l => l ≠ HL.row) H.a (hC CT CH en H s) S H.a (fun l => if l = .row then none else hC CT CH en H s l) S := R.sub fun l o h => by
    by_cases z : l = .row
    · rw [if_pos z] at h; cases h
    · rw [if_neg z] at h; exact h
  refine ⟨T1.trans (T1.rep.set (l := .hall) (o := hallO CH en H s) (by rw [if_neg (by exact nofun)]; rfl) rfl fun l' hl => ?_) (fun l hl h => by rw [if_neg hl]; exact h), Nat.le_refl _⟩
  cases l' with
  | hall => exact absurd rfl hl
  | row => rfl
  | _ => rw [if_neg (by exact nofun)]; rfl
/-- a row is begun -/
theorem HTr.begun (R : HRep CT CH en H s S) (h0 : s.row = none) {p : Addr} (hp : S p = none) (l : List Nat) :
    HTr CT CH en H s S { H with a := fun x => if x = .row then p else H.a x } { s with row := some l } (put (put S p (.lst (l.map fun n => .ref (H.a (.t n))))) (H.a .hall) (.ins CH H.dx (haFs en (.int (s.many : Int)) (.ref (H.a .th)) (.ref (H.a .lf)) (.ref p) (.int (s.lasts : Int))))) := by
  have T1 : Tr (fun l => l ≠ HL.row) H.a (hC CT CH en H s) S (fun x => if x = .row then p else H.a x) (fun x => if x = .row then some (rowO H l) else hC CT CH en H s x) (put S p (rowO H l)) := by
    refine R.new (l := .row) hp (by show s.row.map (rowO H) = none; rw [h0]; rfl) (if_pos rfl) (fun l' h => ?_) (if_pos rfl) fun l' h => if_neg h
    rw [if_neg]
    intro z
    subst z
    exact h (by show s.row.map (rowO H) = none; rw [h0]; rfl)
  have e1 : (if HL.hall = HL.row then p else H.a .hall) = H.a .hall := rfl
  have T2 := T1.rep.set (pin := fun l => l ≠ HL.row) (l := .hall) (o := hallO CH en H s) (C' := hC CT CH en { H with a := fun x => if x = .row then p else H.a x } { s with row := some l }) (o' := .ins CH H.dx (haFs en (.int (s.many : Int)) (.ref (H.a .th)) (.ref (H.a .lf)) (.ref p) (.int (s.lasts : Int)))) rfl rfl fun l' hl => by
    cases l' with
    | hall => exact absurd rfl hl
    | _ => rfl
  exact ⟨T1.trans T2 fun l hl h => by rw [if_neg hl]; exact h, Nat.le_refl _⟩
/-- a thing more -/
theorem HTr.make (R : HRep CT CH en H s S) (w : Wf s) {t pd dt : Addr} {form own : D} (h0 : s.parts (s.many + 1) = []) (hw : s.many + 1 ∉ s.waits) (ha : s.many + 1 ∉ s.asked) (n1 : S t = none) (n2 : S pd = none) (ne : t ≠ pd)
    (e1 : S' t = some (.ins CT dt (thFs form (.int ((s.many : Int) + 1)) (.int 0) (.ref pd) own (.bl false) (.bl false)))) (e2 : S' pd = some (.dct [])) (e3 : S' (H.a .hall) = some (.ins CH H.dx (haFs en (.int ((s.many : Int) + 1)) (.ref (H.a .th)) (.ref (H.a .lf)) (rowD H s.row) (.int (s.lasts : Int)))))
    (e4 : S' (H.a .th) = some (.dct (s.there.map (fun n : Nat => ((.inl (n : Int), .ref (H.a (.t n))) : Key × D)) ++ [((.inl ((s.many : Int) + 1) : Key), .ref t)]))) (fr : ∀ b, b ≠ t → b ≠ pd → b ≠ H.a .hall → b ≠ H.a .th → S' b = S b) :
    HTr CT CH en H s S { H with a := fun x => if x = .t (s.many + 1) then t else if x = .pd (s.many + 1) then pd else H.a x, dt := fset H.dt (s.many + 1) dt }
      { s with many := s.many + 1, cnt := fset s.cnt (s.many + 1) 0, form := fset s.form (s.many + 1) form, own := fset s.own (s.many + 1) own, there := s.there ++ [s.many + 1] } S' := by
  have ec : ((s.many + 1 : Nat) : Int) = (s.many : Int) + 1 := by omega
  have ha' : ∀ l, l ≠ .t (s.many + 1) → l ≠ .pd (s.many + 1) → (if l = HL.t (s.many + 1) then t else if l = .pd (s.many + 1) then pd else H.a l) = H.a l := fun l h1 h2 => by rw [if_neg h1, if_neg h2]
  have hat : ∀ i, i ≤ s.many → (if HL.t i = HL.t (s.many + 1) then t else if HL.t i = .pd (s.many + 1) then pd else H.a (.t i)) = H.a (.t i) := fun i hi => ha' _ (fun z => by cases z; omega) nofun
  have hap : ∀ i, i ≤ s.many → (if HL.pd i = HL.t (s.many + 1) then t else if HL.pd i = .pd (s.many + 1) then pd else H.a (.pd i)) = H.a (.pd i) := fun i hi => ha' _ nofun (fun z => by cases z; omega)
  have hvd : ∀ i, ((s.parts i).map fun kv => ((kv.1, vD { H with a := fun x => if x = .t (s.many + 1) then t else if x = .pd (s.many + 1) then pd else H.a x, dt := fset H.dt (s.many + 1) dt } kv.2) : Key × D)) = (s.parts i).map fun kv => (kv.1, vD H kv.2) := fun i => List.map_congr_left fun kv hkv => by
    have := w.pv i kv hkv
    cases e : kv.2 with
    | no d => rfl
    | th j =>
      rw [e] at this
      show (kv.1, D.ref (if HL.t j = HL.t (s.many + 1) then t else if HL.t j = .pd (s.many + 1) then pd else H.a (.t j))) = (kv.1, D.ref (H.a (.t j)))
      rw [hat j this.2]
  have live0 : ∀ l o, hC CT CH en H s l = some o → l ≠ .t (s.many + 1) ∧ l ≠ .pd (s.many + 1) := fun l o h => by
    constructor
    · rintro rfl
      have : hC CT CH en H s (.t (s.many + 1)) = none := if_neg (by omega)
      rw [this] at h; cases h
    · rintro rfl
      have : hC CT CH en H s (.pd (s.many + 1)) = none := if_neg (by omega)
      rw [this] at h; cases h
  have keepS : ∀ l o, hC CT CH en H s l = some o → l ≠ .hall → l ≠ .th → S' (H.a l) = some o := fun l o h g1 g2 => by
    have hS := R.at_ h
    rw [fr _ (sto_ne hS n1) (sto_ne hS n2) (R.ne (nn h) (by exact nofun) g1) (R.ne (nn h) (by exact nofun) g2)]
    exact hS
  refine ⟨⟨⟨fun {l o} h => ?_, fun {l l'} h h' e => ?_⟩, fun b hb hl => ?_, fun b hb => ?_, fun l h => ?_, fun l _ h => ?_⟩, by show s.many ≤ s.many + 1; omega⟩
  · cases l with
    | hall =>
      cases h
      show S' (H.a .hall) = _
      rw [e3]
      unfold hallO
      dsimp only
      rw [ec]
      cases s.row <;> rfl
    | th =>
      cases h
      show S' (H.a .th) = _
      rw [e4]
      unfold thereO
      rw [List.map_append, List.map_singleton, ec]
      congr 2
      congr 1
      · exact List.map_congr_left fun n hn => by
          have := w.tin n hn
          show _ = ((Sum.inl (n : Int), D.ref (if HL.t n = HL.t (s.many + 1) then t else if HL.t n = .pd (s.many + 1) then pd else H.a (.t n))) : Key × D)
          rw [hat n this.2]
      · show _ = [((Sum.inl ((s.many : Int) + 1), D.ref (if HL.t (s.many + 1) = HL.t (s.many + 1) then t else _)) : Key × D)]
        rw [if_pos rfl]
    | lf => cases h; exact keepS .lf _ rfl nofun nofun
    | row =>
      have hr : s.row.map (rowO _) = some o := h
      obtain ⟨r, h1, rfl⟩ := Option.map_eq_some_iff.mp hr
      have k := keepS .row (rowO H r) (by show s.row.map (rowO H) = _; rw [h1]; rfl) nofun nofun
      show S' (H.a .row) = _
      rw [k]
      unfold rowO
      congr 2
      refine List.map_congr_left fun n hn => ?_
      have := w.win n ((w.rnd r h1).2 n hn)
      show _ = D.ref (if HL.t n = HL.t (s.many + 1) then t else if HL.t n = .pd (s.many + 1) then pd else H.a (.t n))
      rw [hat n this.2]
    | t i =>
      have hr : (if 1 ≤ i ∧ i ≤ s.many + 1 then some (thingO CT _ _ i) else none) = some o := h
      split at hr
      · rename_i hi
        cases hr
        show S' (if HL.t i = HL.t (s.many + 1) then t else if HL.t i = .pd (s.many + 1) then pd else H.a (.t i)) = some (.ins CT (fset H.dt (s.many + 1) dt i) (thFs (fset s.form (s.many + 1) form i) (.int (i : Int)) (.int (fset s.cnt (s.many + 1) 0 i)) (.ref (if HL.pd i = HL.t (s.many + 1) then t else if HL.pd i = .pd (s.many + 1) then pd else H.a (.pd i))) (fset s.own (s.many + 1) own i) (.bl (decide (i ∈ s.asked))) (.bl (decide (i ∈ s.waits)))))
        by_cases z : i = s.many + 1
        · subst z
          rw [if_pos rfl, if_neg (by exact nofun), if_pos rfl, fset_same, fset_same, fset_same, fset_same, e1, ec, decide_eq_false hw, decide_eq_false ha]
        · rw [hat i (by omega), hap i (by omega), fset_ne z, fset_ne z, fset_ne z, fset_ne z]
          exact keepS (.t i) _ (hC_t hi.1 (by omega)) nofun nofun
      · cases hr
    | pd i =>
      have hr : (if 1 ≤ i ∧ i ≤ s.many + 1 then some (partsO _ (s.parts i)) else none) = some o := h
      split at hr
      · rename_i hi
        cases hr
        show S' (if HL.pd i = HL.t (s.many + 1) then t else if HL.pd i = .pd (s.many + 1) then pd else H.a (.pd i)) = some (.dct _)
        rw [hvd i]
        by_cases z : i = s.many + 1
        · subst z
          rw [if_neg (by exact nofun), if_pos rfl, e2, h0]
          rfl
        · rw [hap i (by omega)]
          exact keepS (.pd i) _ (hC_pd hi.1 (by omega)) nofun nofun
      · cases hr
  · have back : ∀ l, hC CT CH en { H with a := fun x => if x = .t (s.many + 1) then t else if x = .pd (s.many + 1) then pd else H.a x, dt := fset H.dt (s.many + 1) dt } { s with many := s.many + 1, cnt := fset s.cnt (s.many + 1) 0, form := fset s.form (s.many + 1) form, own := fset s.own (s.many + 1) own, there := s.there ++ [s.many + 1] } l ≠ none → l = .t (s.many + 1) ∨ l = .pd (s.many + 1) ∨ (hC CT CH en H s l ≠ none ∧ l ≠ .t (s.many + 1) ∧ l ≠ .pd (s.many + 1)) := fun l h => by
      by_cases z1 : l = .t (s.many + 1)
      · exact .inl z1
      · by_cases z2 : l = .pd (s.many + 1)
        · exact .inr (.inl z2)
        · refine .inr (.inr ⟨?_, z1, z2⟩)
          cases l with
          | hall => exact nofun
          | th => exact nofun
          | lf => exact nofun
          | row =>
            have hr : s.row.map (rowO _) ≠ none := h
            show s.row.map (rowO H) ≠ none
            cases e : s.row with
            | none => rw [e] at hr; exact absurd rfl hr
            | some r => exact nofun
          | t i =>
            have hr : (if 1 ≤ i ∧ i ≤ s.many + 1 then some (thingO CT _ _ i) else none) ≠ none := h
            split at hr
            · rename_i hi
              rw [hC_t hi.1 (by have : i ≠ s.many + 1 := fun e => z1 (by rw [e]); omega)]
              exact nofun
            · exact absurd rfl hr
          | pd i =>
            have hr : (if 1 ≤ i ∧ i ≤ s.many + 1 then some (partsO _ (s.parts i)) else none) ≠ none := h
            split at hr
            · rename_i hi
              rw [hC_pd hi.1 (by have : i ≠ s.many + 1 := fun e => z2 (by rw [e]); omega)]
              exact nofun
            · exact absurd rfl hr
    have e' : (if l = HL.t (s.many + 1) then t else if l = .pd (s.many + 1) then pd else H.a l) = (if l' = HL.t (s.many + 1) then t else if l' = .pd (s.many + 1) then pd else H.a l') := e
    rcases back l h with rfl | rfl | ⟨g, g1, g2⟩ <;> rcases back l' h' with rfl | rfl | ⟨k, k1, k2⟩
    · rfl
    · rw [if_pos rfl, if_neg (by exact nofun), if_pos rfl] at e'; exact absurd e' ne
    · rw [if_pos rfl, if_neg k1, if_neg k2] at e'; exact absurd n1 (by rw [e']; exact R.live k)
    · rw [if_pos rfl, if_neg (by exact nofun), if_pos rfl] at e'; exact absurd e'.symm ne
    · rfl
    · rw [if_neg (by exact nofun), if_pos rfl, if_neg k1, if_neg k2] at e'; exact absurd n2 (by rw [e']; exact R.live k)
    · rw [if_pos rfl, if_neg g1, if_neg g2] at e'; exact absurd n1 (by rw [← e']; exact R.live g)
    · rw [if_neg g1, if_neg g2, if_neg (by exact nofun), if_pos rfl] at e'; exact absurd n2 (by rw [← e']; exact R.live g)
    · rw [if_neg g1, if_neg g2, if_neg k1, if_neg k2] at e'; exact R.inj g k e'
  · exact fr b (fun z => hb (by rw [z]; exact n1)) (fun z => hb (by rw [z]; exact n2)) (hl .hall nofun) (hl .th nofun)
  · by_cases z1 : b = H.a .hall
    · rw [z1, e3]; exact nofun
    · by_cases z2 : b = H.a .th
      · rw [z2, e4]; exact nofun
      · rw [fr b (fun z => hb (by rw [z]; exact n1)) (fun z => hb (by rw [z]; exact n2)) z1 z2]; exact hb
  · by_cases z1 : l = .t (s.many + 1)
    · refine .inr ?_
      show S (if l = HL.t (s.many + 1) then t else _) = none
      rw [if_pos z1]; exact n1
    · by_cases z2 : l = .pd (s.many + 1)
      · refine .inr ?_
        show S (if l = HL.t (s.many + 1) then t else if l = .pd (s.many + 1) then pd else H.a l) = none
        rw [if_neg z1, if_pos z2]; exact n2
      · refine .inl ⟨?_, ha' l z1 z2⟩
        cases l with
        | hall => exact nofun
        | th => exact nofun
        | lf => exact nofun
        | row =>
          have hr : s.row.map (rowO _) ≠ none := h
          show s.row.map (rowO H) ≠ none
          cases e : s.row with
          | none => rw [e] at hr; exact absurd rfl hr
          | some r => exact nofun
        | t i =>
          have hr : (if 1 ≤ i ∧ i ≤ s.many + 1 then some (thingO CT _ _ i) else none) ≠ none := h
          split at hr
          · rename_i hi
            rw [hC_t hi.1 (by have : i ≠ s.many + 1 := fun e => z1 (by rw [e]); omega)]
            exact nofun
          · exact absurd rfl hr
        | pd i =>
          have hr : (if 1 ≤ i ∧ i ≤ s.many + 1 then some (partsO _ (s.parts i)) else none) ≠ none := h
          split at hr
          · rename_i hi
            rw [hC_pd hi.1 (by have : i ≠ s.many + 1 := fun e => z2 (by rw [e]); omega)]
            exact nofun
          · exact absurd rfl hr
  · cases e : hC CT CH en H s l with
    | none => exact absurd e h
    | some o => exact ha' l (live0 l o e).1 (live0 l o e).2
end
end HM

set_option Elab.async false
set_option linter.all false
set_option maxRecDepth 100000
/-! ### holds counted anew -/
namespace HM
open PySem L2 DL
def Vl.is (n : Nat) : Vl → Bool
  | .no _ => false
  | .th j => decide (j = n)
def pcnt (l : List (Key × Vl)) (n : Nat) : Nat := l.countP fun kv => kv.2.is n
def psum (p : Nat → List (Key × Vl)) (l : List Nat) (n : Nat) : Nat := (l.map fun k => pcnt (p k) n).sum
def cntF (s : Hs) (n : Nat) : Nat := s.outer.count n + psum s.parts s.there n + psum s.parts s.rest n
theorem psum_cons (p : Nat → List (Key × Vl)) (k : Nat) (l : List Nat) (n : Nat) : psum p (k :: l) n = pcnt (p k) n + psum p l n := rfl
theorem psum_app (p : Nat → List (Key × Vl)) (l r : List Nat) (n : Nat) : psum p (l ++ r) n = psum p l n + psum p r n := by unfold psum; rw [List.map_append, List.sum_append]
theorem psum_fset_no {p : Nat → List (Key × Vl)} {k n : Nat} {x : List (Key × Vl)} : ∀ {l : List Nat}, k ∉ l → psum (fset p k x) l n = psum p l n
  | [], _ => rfl
  | j :: l, h => by
    rw [psum_cons, psum_cons, fset_ne (fun z => h (by rw [z]; exact List.mem_cons_self ..)), psum_fset_no fun z => h (List.mem_cons_of_mem _ z)]
theorem psum_fset {p : Nat → List (Key × Vl)} {k n : Nat} {x : List (Key × Vl)} : ∀ {l : List Nat}, l.Nodup → k ∈ l → psum (fset p k x) l n + pcnt (p k) n = psum p l n + pcnt x n
  | [], _, h => by cases h
  | j :: l, nd, h => by
    obtain ⟨n1, n2⟩ := List.nodup_cons.mp nd
    rw [psum_cons, psum_cons]
    by_cases z : j = k
    · subst z
      rw [fset_same, psum_fset_no n1]
      omega
    · rw [fset_ne z]
      have := psum_fset (p := p) (n := n) (x := x) n2 ((List.mem_cons.mp h).resolve_left (Ne.symm z))
      omega
theorem psum_filter {p : Nat → List (Key × Vl)} {k n : Nat} : ∀ {l : List Nat}, l.Nodup → k ∈ l → psum p (l.filter fun i => decide (i ≠ k)) n + pcnt (p k) n = psum p l n
  | [], _, h => by cases h
  | j :: l, nd, h => by
    obtain ⟨n1, n2⟩ := List.nodup_cons.mp nd
    rw [List.filter_cons, psum_cons]
    by_cases z : j = k
    · subst z
      rw [if_neg (by simp)]
      have : (l.filter fun i => decide (i ≠ j)) = l := List.filter_eq_self.mpr fun i hi => by
        rw [decide_eq_true_iff]
        exact fun z => n1 (z ▸ hi)
      rw [this]
      omega
    · rw [if_pos (by simpa using z), psum_cons]
      have := psum_filter (p := p) (n := n) n2 ((List.mem_cons.mp h).resolve_left (Ne.symm z))
      omega
theorem filter_no {k : Nat} {l : List Nat} (h : k ∉ l) : (l.filter fun i => decide (i ≠ k)) = l := List.filter_eq_self.mpr fun i hi => by
  rw [decide_eq_true_iff]
  exact fun z => h (z ▸ hi)
/-- a pending hold -/
def one (v : Vl) (n : Nat) : Nat := if v.is n = true then 1 else 0
/-- all holds are counted, but for one of v that is taken away now -/
structure GoodP (s : Hs) (v : Vl) : Prop where
  cnt : ∀ n, s.cnt n = (cntF s n + one v n : Nat)
  rnd : s.rest.Nodup
  rt : ∀ n ∈ s.rest, n ∉ s.there
  rin : ∀ n ∈ s.rest, 1 ≤ n ∧ n ≤ s.many
  oin : ∀ n ∈ s.outer, n ≤ s.many
abbrev Good (s : Hs) : Prop := GoodP s (.no .non)
theorem Good.eq {s : Hs} (g : Good s) (n : Nat) : s.cnt n = (cntF s n : Nat) := g.cnt n
section
variable {s : Hs} {n : Nat} {v : Vl}
theorem one_th (n j : Nat) : one (.th n) j = if n = j then 1 else 0 := by
  unfold one Vl.is
  by_cases h : n = j <;> simp [h]
theorem pcnt_cons (kv : Key × Vl) (l : List (Key × Vl)) (n : Nat) : pcnt (kv :: l) n = pcnt l n + one kv.2 n := by
  unfold pcnt one
  rw [List.countP_cons]
theorem GoodP.dec (g : GoodP s (.th n)) : Good (s.dec n) := by
  refine ⟨fun j => ?_, g.rnd, g.rt, g.rin, g.oin⟩
  show fset s.cnt n (s.cnt n - 1) j = ((cntF s j + 0 : Nat) : Int)
  by_cases z : j = n
  · subst z
    rw [fset_same, g.cnt j, one_th, if_pos rfl]
    omega
  · rw [fset_ne z, g.cnt j, one_th, if_neg (Ne.symm z)]
theorem GoodP.loosed (g : GoodP s v) : Good (s.loosed v) := by
  cases v with
  | no d => exact ⟨g.cnt, g.rnd, g.rt, g.rin, g.oin⟩
  | th n =>
    have h := g.dec
    rw [loosed_th]
    split
    · exact ⟨h.cnt, h.rnd, h.rt, h.rin, h.oin⟩
    · exact h
/-- the parts of n change, by one hold -/
theorem Good.setP (g : Good s) (w : Wf s) {l : List (Key × Vl)} (hn : n ∈ s.there ∨ n ∈ s.rest) (v : Vl) (c : Nat → Int) (h : ∀ j, c j = s.cnt j + ((pcnt l j : Int) + (one v j : Int) - (pcnt (s.parts n) j : Int))) : GoodP { s with parts := fset s.parts n l, cnt := c } v := by
  refine ⟨fun j => ?_, g.rnd, g.rt, g.rin, g.oin⟩
  have e := g.eq j
  have key : cntF { s with parts := fset s.parts n l, cnt := c } j + pcnt (s.parts n) j = cntF s j + pcnt l j := by
    unfold cntF
    dsimp only
    rcases hn with hn | hn
    · have h1 : n ∉ s.rest := fun z => g.rt n z hn
      have h2 := psum_fset (p := s.parts) (n := j) (x := l) w.nd hn
      rw [psum_fset_no h1]
      omega
    · have h1 : n ∉ s.there := g.rt n hn
      have h2 := psum_fset (p := s.parts) (n := j) (x := l) g.rnd hn
      rw [psum_fset_no h1]
      omega
  show c j = _
  rw [h j, e]
  omega
theorem Good.part (g : Good s) (w : Wf s) {kv : Key × Vl} {l : List (Key × Vl)} (hn : n ∈ s.there ∨ n ∈ s.rest) (h : s.parts n = kv :: l) : GoodP { s with parts := fset s.parts n l } kv.2 :=
  g.setP w hn kv.2 s.cnt fun j => by rw [h, pcnt_cons]; omega
theorem loosed_rest (s : Hs) (v : Vl) : (s.loosed v).rest = s.rest := by
  cases v with
  | no d => rfl
  | th n => rw [loosed_th]; split <;> rfl
theorem Good.emptied : ∀ {l : List (Key × Vl)} {s : Hs}, Good s → Wf s → n ∈ s.rest → s.parts n = l → Good (s.emptied n l) ∧ (s.emptied n l).parts n = [] ∧ (s.emptied n l).rest = s.rest ∧ (s.emptied n l).there = s.there
  | [], s, g, w, hn, h => ⟨g, h, rfl, rfl⟩
  | kv :: l, s, g, w, hn, h => by
    have g1 := (g.part w (.inr hn) h).loosed
    have w1 := (w.part h).loosed kv.2
    obtain ⟨a, b, c, d⟩ := Good.emptied (l := l) g1 w1 (by rw [loosed_rest]; exact hn) (by rw [loosed_parts]; exact fset_same)
    exact ⟨a, b, by rw [show (s.emptied n (kv :: l)).rest = _ from c, loosed_rest], by rw [show (s.emptied n (kv :: l)).there = _ from d, loosed_there]⟩
theorem Good.gone (g : Good s) (w : Wf s) (hn : n ∈ s.there) : Good (s.gone n) := by
  have h1 : n ∉ s.rest := fun z => g.rt n z hn
  refine ⟨fun j => ?_, ?_, fun i hi => ?_, fun i hi => ?_, g.oin⟩
  · have e := g.eq j
    have h2 := psum_filter (p := s.parts) (n := j) w.nd hn
    show s.cnt j = _
    rw [e]
    have : cntF (s.gone n) j = cntF s j := by
      unfold cntF Hs.gone
      dsimp only
      rw [psum_app, psum_cons]
      have : psum s.parts [] j = 0 := rfl
      omega
    rw [this]
    rfl
  · exact List.nodup_append.mpr ⟨g.rnd, by simp, fun a ha b hb e => h1 (by rw [← List.mem_singleton.mp hb, ← e]; exact ha)⟩
  · show i ∉ s.there.filter _
    rcases List.mem_append.mp hi with hi | hi
    · exact fun z => g.rt i hi (List.mem_filter.mp z).1
    · rw [List.mem_singleton.mp hi]
      exact fun z => of_decide_eq_true (List.mem_filter.mp z).2 rfl
  · show 1 ≤ i ∧ i ≤ s.many
    rcases List.mem_append.mp hi with hi | hi
    · exact g.rin i hi
    · rw [List.mem_singleton.mp hi]; exact w.tin n hn
theorem Good.bare (g : Good s) (h : s.parts n = []) : Good (s.bare n) := by
  refine ⟨fun j => ?_, g.rnd.sublist List.filter_sublist, fun i hi => g.rt i (List.mem_filter.mp hi).1, fun i hi => g.rin i (List.mem_filter.mp hi).1, g.oin⟩
  have e := g.eq j
  show s.cnt j = _
  rw [e]
  have : cntF (s.bare n) j = cntF s j := by
    unfold cntF Hs.bare
    dsimp only
    by_cases hn : n ∈ s.rest
    · have h2 := psum_filter (p := s.parts) (n := j) g.rnd hn
      rw [h] at h2
      have : pcnt [] j = 0 := rfl
      omega
    · rw [filter_no hn]
  rw [this]
  rfl
theorem Good.up (g : Good s) (hn : n ≤ s.many) : Good (s.up n) := by
  refine ⟨fun j => ?_, g.rnd, g.rt, g.rin, fun i hi => ?_⟩
  · show fset s.cnt n (s.cnt n + 1) j = (((s.outer ++ [n]).count j + psum s.parts s.there j + psum s.parts s.rest j + 0 : Nat) : Int)
    have e := g.eq j
    unfold cntF at e
    by_cases z : j = n
    · subst z
      rw [fset_same, e, List.count_append, List.count_singleton_self]
      omega
    · rw [fset_ne z, e, List.count_append, List.count_eq_zero_of_not_mem (show j ∉ [n] by simpa using z)]
      omega
  · show i ≤ s.many
    rcases List.mem_append.mp hi with hi | hi
    · exact g.oin i hi
    · rw [List.mem_singleton.mp hi]; exact hn
theorem Good.down (g : Good s) (hn : n ∈ s.outer) : Good (s.down n) := by
  refine ⟨fun j => ?_, g.rnd, g.rt, g.rin, fun i hi => g.oin i (List.mem_of_mem_erase hi)⟩
  show fset s.cnt n (s.cnt n - 1) j = (((s.outer.erase n).count j + psum s.parts s.there j + psum s.parts s.rest j + 0 : Nat) : Int)
  have e := g.eq j
  unfold cntF at e
  by_cases z : j = n
  · subst z
    have := List.count_pos_iff.mpr hn
    rw [fset_same, e, List.count_erase_self]
    omega
  · rw [fset_ne z, e, List.count_erase_of_ne z]
    omega
theorem Good.unwait (g : Good s) : Good (s.unwait n) := ⟨g.cnt, g.rnd, g.rt, g.rin, g.oin⟩
theorem Good.nonneg (g : Good s) (n : Nat) : 0 ≤ s.cnt n := by rw [g.eq]; omega
/-- a thing made -/
theorem Good.made (g : Good s) (w : Wf s) (form own : D) : Good (s.made form own) := by
  have hp : ∀ i, pcnt (s.parts i) (s.many + 1) = 0 := fun i => by
    unfold pcnt
    rw [List.countP_eq_zero]
    intro kv hk
    have := w.pv i kv hk
    cases e : kv.2 with
    | no d => simp [Vl.is]
    | th j =>
      rw [e] at this
      unfold Vl.is
      have h2 : j ≤ s.many := this.2
      simp
      omega
  have hz : ∀ l, psum s.parts l (s.many + 1) = 0 := fun l => by
    induction l with
    | nil => rfl
    | cons k l ih => rw [psum_cons, hp, ih]
  refine ⟨fun j => ?_, g.rnd, fun i hi => ?_, fun i hi => ?_, fun i hi => ?_⟩
  · show fset s.cnt (s.many + 1) 0 j = ((s.outer.count j + psum s.parts (s.there ++ [s.many + 1]) j + psum s.parts s.rest j + 0 : Nat) : Int)
    rw [psum_app, psum_cons, w.pz _ (Nat.lt_succ_self _)]
    have hn : psum s.parts [] j = 0 := rfl
    have hn2 : pcnt [] j = 0 := rfl
    by_cases z : j = s.many + 1
    · subst z
      have h1 := hz s.there
      have h2 := hz s.rest
      rw [fset_same, List.count_eq_zero_of_not_mem (fun z => by have := g.oin _ z; omega)]
      omega
    · have e := g.eq j
      unfold cntF at e
      rw [fset_ne z, e]
      omega
  · show i ∉ s.there ++ [s.many + 1]
    intro z
    rcases List.mem_append.mp z with z | z
    · exact g.rt i hi z
    · have := g.rin i hi
      rw [List.mem_singleton.mp z] at this
      omega
  · have := g.rin i hi
    show 1 ≤ i ∧ i ≤ s.many + 1
    omega
  · have := g.oin i hi
    show i ≤ s.many + 1
    omega
theorem pcnt_gput {l : List (Key × Vl)} (hk : (l.map (·.1)).Nodup) (k : Key) (v : Vl) (j : Nat) : pcnt (gput l k v) j + one ((gval l k).getD (.no .non)) j = pcnt l j + one v j := by
  induction l with
  | nil =>
    show pcnt [(k, v)] j + one (.no .non) j = _
    rw [pcnt_cons]
    rfl
  | cons kv l ih =>
    rw [List.map_cons] at hk
    obtain ⟨h1, h2⟩ := List.nodup_cons.mp hk
    by_cases z : kv.1 = k
    · have e1 : gput (kv :: l) k v = (kv.1, v) :: l := by
        unfold gput
        rw [if_pos (by rw [List.any_cons]; simp [z]), List.map_cons, if_pos z]
        congr 1
        refine (List.map_congr_left fun x hx => ?_).trans (List.map_id _)
        have : x.1 ≠ k := fun y => h1 (List.mem_map.mpr ⟨x, hx, y.trans z.symm⟩)
        rw [if_neg this]
        rfl
      have e2 : gval (kv :: l) k = some kv.2 := by simp [gval, List.find?_cons, z]
      rw [e1, e2, pcnt_cons, pcnt_cons]
      show pcnt l j + one v j + one kv.2 j = _
      omega
    · have e2 : gval (kv :: l) k = gval l k := by simp [gval, List.find?_cons, z]
      have e1 : gput (kv :: l) k v = kv :: gput l k v := by
        unfold gput
        rw [List.any_cons]
        simp only [z, decide_false, Bool.false_or]
        split
        · rw [List.map_cons, if_neg z]
        · rfl
      rw [e1, e2, pcnt_cons, pcnt_cons]
      have := ih h2
      omega
theorem pcnt_gdrop {l : List (Key × Vl)} (hk : (l.map (·.1)).Nodup) {k : Key} {v : Vl} (h : gval l k = some v) (j : Nat) : pcnt (gdrop l k) j + one v j = pcnt l j := by
  induction l with
  | nil => cases h
  | cons kv l ih =>
    rw [List.map_cons] at hk
    obtain ⟨h1, h2⟩ := List.nodup_cons.mp hk
    by_cases z : kv.1 = k
    · have e2 : gval (kv :: l) k = some kv.2 := by simp [gval, List.find?_cons, z]
      rw [e2] at h
      cases h
      have e1 : gdrop (kv :: l) k = l := by
        unfold gdrop
        rw [List.filter_cons, if_neg (by simp [z]), List.filter_eq_self]
        intro x hx
        rw [decide_eq_true_iff]
        exact fun y => h1 (List.mem_map.mpr ⟨x, hx, y.trans z.symm⟩)
      rw [e1, pcnt_cons]
    · have e2 : gval (kv :: l) k = gval l k := by simp [gval, List.find?_cons, z]
      rw [e2] at h
      have e1 : gdrop (kv :: l) k = kv :: gdrop l k := by
        unfold gdrop
        rw [List.filter_cons, if_pos (by simp [z])]
      rw [e1, pcnt_cons, pcnt_cons]
      have := ih h2 h
      omega
theorem held_cnt (s : Hs) (v : Vl) (j : Nat) : (s.held v).cnt j = s.cnt j + (one v j : Int) := by
  cases v with
  | no d => show s.cnt j = s.cnt j + ((0 : Nat) : Int); omega
  | th n =>
    show fset s.cnt n (s.cnt n + 1) j = _
    rw [one_th]
    by_cases z : j = n
    · subst z; rw [fset_same, if_pos rfl]; omega
    · rw [fset_ne z, if_neg (Ne.symm z)]; omega
theorem Good.putP (g : Good s) (w : Wf s) (hn : n ∈ s.there) (k : Key) (v : Vl) : GoodP (s.putP n k v) (oldP s n k) := by
  have h := g.setP w (l := gput (s.parts n) k v) (.inl hn) (oldP s n k) (s.held v).cnt fun j => by
    have := pcnt_gput (w.key n) k v j
    rw [held_cnt]
    unfold oldP
    omega
  have e : s.putP n k v = { s with parts := fset s.parts n (gput (s.parts n) k v), cnt := (s.held v).cnt } := by
    unfold Hs.putP
    cases v <;> rfl
  rw [e]
  exact h
theorem Good.dropP (g : Good s) (w : Wf s) (hn : n ∈ s.there) {k : Key} (hv : gval (s.parts n) k = some v) : GoodP (s.dropP n k) v :=
  g.setP w (l := gdrop (s.parts n) k) (.inl hn) v s.cnt fun j => by
    have := pcnt_gdrop (w.key n) hv j
    omega
end
end HM

set_option Elab.async false
set_option linter.all false
set_option maxRecDepth 100000
/-! ### the law's own hall of lists in the store -/
namespace HM
open PySem L2 DL
inductive ML where
  | m | parts | rest | outer | mine | ends | left | asked | waits | plans | told | row | pl (n : Nat)
  deriving DecidableEq
structure Mx where
  plans : List (Key × D)
  ender : Bool
def vM : Vl → D
  | .no d => d
  | .th n => .tup [.str "t", .int (n : Int)]
def pM (kv : Key × Vl) : D := .tup [dK kv.1, vM kv.2]
def nD (l : List Nat) : List D := l.map fun n : Nat => .int (n : Int)
def rowM (M : ML → Addr) : Option (List Nat) → D
  | none => .non
  | some _ => .ref (M .row)
def mKvs (M : ML → Addr) (x : Mx) (many : Nat) (row : D) (lasts : Nat) : List (Key × D) := [(.inr "parts", .ref (M .parts)), (.inr "rest", .ref (M .rest)), (.inr "outer", .ref (M .outer)), (.inr "mine", .ref (M .mine)), (.inr "ends", .ref (M .ends)), (.inr "left", .ref (M .left)), (.inr "asked", .ref (M .asked)), (.inr "waits", .ref (M .waits)),
  (.inr "plans", .ref (M .plans)), (.inr "many", .int (many : Int)), (.inr "row", row), (.inr "lasts", .int (lasts : Int)), (.inr "told", .ref (M .told)), (.inr "ender", .bl x.ender)]
def plD (M : ML → Addr) (l : List Nat) : List (Key × D) := l.map fun n : Nat => ((.inl (n : Int), .ref (M (.pl n))) : Key × D)
def mC (M : ML → Addr) (x : Mx) (s : Hs) : ML → Option O
  | .m => some (.dct (mKvs M x s.many (rowM M s.row) s.lasts))
  | .parts => some (.dct (plD M s.there))
  | .rest => some (.dct (plD M s.rest))
  | .outer => some (.lst (nD s.outer))
  | .mine => some (.lst (nD s.mine))
  | .ends => some (.lst (nD s.ends))
  | .left => some (.lst (nD s.left))
  | .asked => some (.lst (nD s.asked))
  | .waits => some (.lst (nD s.waits))
  | .plans => some (.dct x.plans)
  | .told => some (.lst s.told)
  | .row => s.row.map fun l => .lst (nD l)
  | .pl n => if n ∈ s.there ∨ n ∈ s.rest then some (.lst ((s.parts n).map pM)) else none
abbrev MRep (M : ML → Addr) (x : Mx) (s : Hs) (S : Sto) : Prop := Rep M (mC M x s) S
abbrev MTr (M : ML → Addr) (x : Mx) (s : Hs) (S : Sto) (M' : ML → Addr) (x' : Mx) (s' : Hs) (S' : Sto) : Prop := Tr (fun l => l = ML.m) M (mC M x s) S M' (mC M' x' s') S'
section
variable {M M' M2 : ML → Addr} {x x' x2 : Mx} {s s' s2 : Hs} {S S' S2 : Sto} {n : Nat} {a b c : Nat} {r d : D}
theorem mg_parts : gval (mKvs M x a r b) (.inr "parts") = some (.ref (M .parts)) := rfl
theorem mg_rest : gval (mKvs M x a r b) (.inr "rest") = some (.ref (M .rest)) := rfl
theorem mg_outer : gval (mKvs M x a r b) (.inr "outer") = some (.ref (M .outer)) := rfl
theorem mg_mine : gval (mKvs M x a r b) (.inr "mine") = some (.ref (M .mine)) := rfl
theorem mg_left : gval (mKvs M x a r b) (.inr "left") = some (.ref (M .left)) := rfl
theorem mg_waits : gval (mKvs M x a r b) (.inr "waits") = some (.ref (M .waits)) := rfl
theorem mg_many : gval (mKvs M x a r b) (.inr "many") = some (.int (a : Int)) := rfl
theorem mg_row : gval (mKvs M x a r b) (.inr "row") = some r := rfl
theorem mg_ender : gval (mKvs M x a r b) (.inr "ender") = some (.bl x.ender) := rfl
theorem mp_many : gput (mKvs M x a r b) (.inr "many") (.int (c : Int)) = mKvs M x c r b := rfl
theorem mp_row : gput (mKvs M x a r b) (.inr "row") d = mKvs M x a d b := rfl
theorem MTr.refl (R : MRep M x s S) : MTr M x s S M x s S := Rep.refl R
theorem MTr.trans (T : MTr M x s S M' x' s' S') (U : MTr M' x' s' S' M2 x2 s2 S2) : MTr M x s S M2 x2 s2 S2 := Tr.trans T U fun l hl _ => by subst hl; exact nofun
theorem MTr.m (T : MTr M x s S M' x' s' S') : M' .m = M .m := T.keep .m rfl nofun
theorem MTr.ghost (R : MRep M x s S) (h : mC M x s' = mC M x s) : MTr M x s S M x s' S := by
  show Tr _ M (mC M x s) S M (mC M x s') S
  rw [h]; exact Rep.refl R
theorem pl_live (h : n ∈ s.there ∨ n ∈ s.rest) : mC M x s (.pl n) = some (.lst ((s.parts n).map pM)) := if_pos h
theorem m_m (R : MRep M x s S) : S (M .m) = some (.dct (mKvs M x s.many (rowM M s.row) s.lasts)) := R.at_ (l := .m) rfl
theorem m_parts (R : MRep M x s S) : S (M .parts) = some (.dct (plD M s.there)) := R.at_ (l := .parts) rfl
theorem m_rest (R : MRep M x s S) : S (M .rest) = some (.dct (plD M s.rest)) := R.at_ (l := .rest) rfl
theorem m_outer (R : MRep M x s S) : S (M .outer) = some (.lst (nD s.outer)) := R.at_ (l := .outer) rfl
theorem m_mine (R : MRep M x s S) : S (M .mine) = some (.lst (nD s.mine)) := R.at_ (l := .mine) rfl
theorem m_left (R : MRep M x s S) : S (M .left) = some (.lst (nD s.left)) := R.at_ (l := .left) rfl
theorem m_waits (R : MRep M x s S) : S (M .waits) = some (.lst (nD s.waits)) := R.at_ (l := .waits) rfl
theorem m_row (R : MRep M x s S) {l : List Nat} (h : s.row = some l) : S (M .row) = some (.lst (nD l)) := R.at_ (l := .row) (by show s.row.map _ = _; rw [h]; rfl)
theorem m_pl (R : MRep M x s S) (h : n ∈ s.there ∨ n ∈ s.rest) : S (M (.pl n)) = some (.lst ((s.parts n).map pM)) := R.at_ (pl_live h)
theorem MTr.setAt (R : MRep M x s S) {l : ML} {o o' : O} (h : mC M x s l = some o) (h' : mC M x s' l = some o') (hne : ∀ l', l' ≠ l → mC M x s' l' = mC M x s l') : MTr M x s S M x s' (put S (M l) o') := Rep.set R h h' hne
theorem MTr.outer (R : MRep M x s S) (l : List Nat) (c : Nat → Int) : MTr M x s S M x { s with outer := l, cnt := c } (put S (M .outer) (.lst (nD l))) :=
  MTr.setAt R (l := .outer) rfl rfl fun l' hl => by cases l' <;> first | rfl | exact absurd rfl hl
theorem MTr.mine (R : MRep M x s S) (l : List Nat) : MTr M x s S M x { s with mine := l } (put S (M .mine) (.lst (nD l))) :=
  MTr.setAt R (l := .mine) rfl rfl fun l' hl => by cases l' <;> first | rfl | exact absurd rfl hl
theorem MTr.ends (R : MRep M x s S) (l : List Nat) : MTr M x s S M x { s with ends := l } (put S (M .ends) (.lst (nD l))) :=
  MTr.setAt R (l := .ends) rfl rfl fun l' hl => by cases l' <;> first | rfl | exact absurd rfl hl
theorem MTr.left (R : MRep M x s S) (l : List Nat) : MTr M x s S M x { s with left := l } (put S (M .left) (.lst (nD l))) :=
  MTr.setAt R (l := .left) rfl rfl fun l' hl => by cases l' <;> first | rfl | exact absurd rfl hl
theorem MTr.asked (R : MRep M x s S) (l : List Nat) : MTr M x s S M x { s with asked := l } (put S (M .asked) (.lst (nD l))) :=
  MTr.setAt R (l := .asked) rfl rfl fun l' hl => by cases l' <;> first | rfl | exact absurd rfl hl
theorem MTr.waits (R : MRep M x s S) (l : List Nat) : MTr M x s S M x { s with waits := l } (put S (M .waits) (.lst (nD l))) :=
  MTr.setAt R (l := .waits) rfl rfl fun l' hl => by cases l' <;> first | rfl | exact absurd rfl hl
theorem MTr.lasts (R : MRep M x s S) (c : Nat) : MTr M x s S M x { s with lasts := c } (put S (M .m) (.dct (mKvs M x s.many (rowM M s.row) c))) :=
  MTr.setAt R (l := .m) rfl rfl fun l' hl => by cases l' <;> first | rfl | exact absurd rfl hl
theorem MTr.setRow (R : MRep M x s S) {l0 : List Nat} (h : s.row = some l0) (l : List Nat) : MTr M x s S M x { s with row := some l } (put S (M .row) (.lst (nD l))) :=
  MTr.setAt R (l := .row) (o := .lst (nD l0)) (by show s.row.map _ = _; rw [h]; rfl) rfl fun l' hl => by
    cases l' with
    | row => exact absurd rfl hl
    | m => show some (O.dct (mKvs M x s.many _ s.lasts)) = some (O.dct (mKvs M x s.many (rowM M s.row) s.lasts)); rw [h]; rfl
    | _ => rfl
theorem MTr.pl (R : MRep M x s S) (hn : n ∈ s.there ∨ n ∈ s.rest) (l : List (Key × Vl)) (c : Nat → Int) : MTr M x s S M x { s with parts := fset s.parts n l, cnt := c } (put S (M (.pl n)) (.lst (l.map pM))) :=
  MTr.setAt R (l := .pl n) (pl_live hn) (by rw [pl_live (s := { s with parts := fset s.parts n l, cnt := c }) hn]; show some (O.lst ((fset s.parts n l n).map pM)) = _; rw [fset_same]) fun l' hl => by
    cases l' with
    | pl i =>
      have z : i ≠ n := fun e => hl (by rw [e])
      show (if i ∈ s.there ∨ i ∈ s.rest then some (O.lst ((fset s.parts n l i).map pM)) else none) = if i ∈ s.there ∨ i ∈ s.rest then some (O.lst ((s.parts i).map pM)) else none
      rw [fset_ne z]
    | _ => rfl
theorem MTr.noRow (R : MRep M x s S) : MTr M x s S M x { s with row := none } (put S (M .m) (.dct (mKvs M x s.many .non s.lasts))) := by
  have T1 : Tr (fun l => l = ML.m) M (mC M x s) S M (fun l => if l = .row then none else mC M x s l) S := Rep.sub R fun l o h => by
    by_cases z : l = .row
    · rw [if_pos z] at h; cases h
    · rw [if_neg z] at h; exact h
  refine T1.trans (T1.rep.set (l := .m) (o := .dct (mKvs M x s.many (rowM M s.row) s.lasts)) (by rw [if_neg (by exact nofun)]; rfl) rfl fun l' hl => ?_) (fun l hl h => by subst hl; exact nofun)
  cases l' with
  | m => exact absurd rfl hl
  | row => rfl
  | _ => rw [if_neg (by exact nofun)]; rfl
theorem MTr.begun (R : MRep M x s S) (h0 : s.row = none) {p : Addr} (hp : S p = none) (l : List Nat) :
    MTr M x s S (fun y => if y = .row then p else M y) x { s with row := some l } (put (put S p (.lst (nD l))) (M .m) (.dct (mKvs M x s.many (.ref p) s.lasts))) := by
  have T1 : Tr (fun l => l = ML.m) M (mC M x s) S (fun y => if y = .row then p else M y) (fun y => if y = .row then some (.lst (nD l)) else mC M x s y) (put S p (.lst (nD l))) := by
    refine Rep.new R (l := .row) hp (by show s.row.map _ = none; rw [h0]; rfl) (if_pos rfl) (fun l' h => ?_) (if_pos rfl) fun l' h => if_neg h
    rw [if_neg]
    intro z
    subst z
    exact h (by show s.row.map _ = none; rw [h0]; rfl)
  have T2 := T1.rep.set (pin := fun l => l = ML.m) (l := .m) (o := .dct (mKvs M x s.many (rowM M s.row) s.lasts)) (C' := mC (fun y => if y = .row then p else M y) x { s with row := some l }) (o' := .dct (mKvs M x s.many (.ref p) s.lasts)) rfl rfl fun l' hl => by
    cases l' with
    | m => exact absurd rfl hl
    | _ => rfl
  exact T1.trans T2 fun l hl h => by subst hl; exact nofun
theorem plD_drop (l : List Nat) : gdrop (plD M l) (.inl (n : Int)) = plD M (l.filter fun i => decide (i ≠ n)) := by
  unfold gdrop plD
  rw [List.filter_map]
  congr 1
  refine List.filter_congr fun i _ => ?_
  show decide ((Sum.inl (i : Int) : Key) ≠ Sum.inl (n : Int)) = decide (i ≠ n)
  rw [Bool.eq_iff_iff, decide_eq_true_iff, decide_eq_true_iff]
  constructor
  · intro z y; exact z (by rw [y])
  · intro z y; exact z (by have := Sum.inl.inj y; omega)
theorem plD_get {l : List Nat} (h : n ∈ l) : gval (plD M l) (.inl (n : Int)) = some (.ref (M (.pl n))) := by
  induction l with
  | nil => cases h
  | cons k l ih =>
    unfold plD gval at ih ⊢
    rw [List.map_cons, List.find?_cons]
    by_cases z : k = n
    · subst z
      simp
    · have : ¬ ((Sum.inl (k : Int) : Key) = Sum.inl (n : Int)) := fun y => z (by have := Sum.inl.inj y; omega)
      simp only [this, decide_false]
      exact ih ((List.mem_cons.mp h).resolve_left (Ne.symm z))
theorem plD_isSome {l : List Nat} : (gval (plD M l) (.inl (n : Int))).isSome = decide (n ∈ l) := by
  by_cases h : n ∈ l
  · rw [plD_get h, decide_eq_true h]; rfl
  · rw [decide_eq_false h]
    unfold gval
    rw [Option.isSome_map, Bool.eq_false_iff]
    intro z
    obtain ⟨kv, h1, h2⟩ := List.find?_isSome.mp z
    obtain ⟨k, hk, rfl⟩ := List.mem_map.mp h1
    have := Sum.inl.inj (of_decide_eq_true h2)
    exact h (by rw [show n = k by omega]; exact hk)
theorem plD_new {l : List Nat} (h : n ∉ l) : gval (plD M l) (.inl (n : Int)) = none := by
  have := plD_isSome (M := M) (n := n) (l := l)
  rw [decide_eq_false h] at this
  exact Option.not_isSome_iff_eq_none.mp (by rw [this]; exact nofun)
theorem plD_upd {k : Nat} {p : Addr} {l : List Nat} (h : ∀ i ∈ l, i ≠ k) : plD (fun y => if y = .pl k then p else M y) l = plD M l := by
  unfold plD
  refine List.map_congr_left fun i hi => ?_
  show ((Sum.inl (i : Int), D.ref (if ML.pl i = ML.pl k then p else M (.pl i))) : Key × D) = _
  rw [if_neg (fun z => h i hi (by cases z; rfl))]
theorem plD_snoc (l : List Nat) (k : Nat) : plD M (l ++ [k]) = plD M l ++ [((.inl (k : Int) : Key), .ref (M (.pl k)))] := by
  unfold plD
  rw [List.map_append]
  rfl
/-- a thing goes from parts to rest -/
theorem MTr.gone (R : MRep M x s S) (hn : n ∈ s.there) : MTr M x s S M x { s with there := s.there.filter (fun i => decide (i ≠ n)), rest := s.rest ++ [n] }
    (put (put S (M .parts) (.dct (plD M (s.there.filter fun i => decide (i ≠ n))))) (M .rest) (.dct (plD M (s.rest ++ [n])))) := by
  have T1 : Tr (fun l => l = ML.m) M (mC M x s) S M (fun l => if l = .parts then some (.dct (plD M (s.there.filter fun i => decide (i ≠ n)))) else mC M x s l) (put S (M .parts) (.dct (plD M (s.there.filter fun i => decide (i ≠ n))))) :=
    Rep.set R (l := .parts) rfl (if_pos rfl) fun l' hl => if_neg hl
  refine T1.trans (T1.rep.set (l := .rest) (o := .dct (plD M s.rest)) rfl rfl fun l' hl => ?_) (fun l hl h => by subst hl; exact nofun)
  cases l' with
  | rest => exact absurd rfl hl
  | parts => rfl
  | pl i =>
    show (if i ∈ s.there.filter (fun i => decide (i ≠ n)) ∨ i ∈ s.rest ++ [n] then some (O.lst ((s.parts i).map pM)) else none) = if i ∈ s.there ∨ i ∈ s.rest then some (O.lst ((s.parts i).map pM)) else none
    have : (i ∈ s.there.filter (fun i => decide (i ≠ n)) ∨ i ∈ s.rest ++ [n]) ↔ (i ∈ s.there ∨ i ∈ s.rest) := by
      rw [List.mem_filter, List.mem_append, List.mem_singleton, decide_eq_true_iff]
      constructor
      · rintro (h | h | h)
        · exact .inl h.1
        · exact .inr h
        · exact .inl (h ▸ hn)
      · rintro (h | h)
        · by_cases z : i = n
          · exact .inr (.inr z)
          · exact .inl ⟨h, z⟩
        · exact .inr (.inl h)
    simp only [this]
  | _ => rfl
/-- its rest is bare -/
theorem MTr.bare (R : MRep M x s S) : MTr M x s S M x (s.bare n) (put S (M .rest) (.dct (plD M (s.rest.filter fun i => decide (i ≠ n))))) := by
  have T1 : Tr (fun l => l = ML.m) M (mC M x s) S M (fun l => if l = .rest then some (.dct (plD M (s.rest.filter fun i => decide (i ≠ n)))) else mC M x s l) (put S (M .rest) (.dct (plD M (s.rest.filter fun i => decide (i ≠ n))))) :=
    Rep.set R (l := .rest) rfl (if_pos rfl) fun l' hl => if_neg hl
  refine T1.trans (T1.rep.sub fun l o h => ?_) (fun l hl h => by subst hl; exact nofun)
  cases l with
  | pl i =>
    have h' : (if i ∈ s.there ∨ i ∈ s.rest.filter (fun i => decide (i ≠ n)) then some (O.lst ((s.parts i).map pM)) else none) = some o := h
    split at h'
    · rename_i hi
      show (if i ∈ s.there ∨ i ∈ s.rest then some (O.lst ((s.parts i).map pM)) else none) = some o
      rw [if_pos (hi.elim .inl fun z => .inr (List.mem_filter.mp z).1)]
      exact h'
    · cases h'
  | rest => exact h
  | _ => exact h
/-- a thing more -/
theorem MTr.made (R : MRep M x s S) (w : Wf s) (g : Good s) {p : Addr} (form own : D) (hp : S p = none) :
    MTr M x s S (fun y => if y = .pl (s.many + 1) then p else M y) x (s.made form own) (put (put (put S (M .m) (.dct (mKvs M x (s.many + 1) (rowM M s.row) s.lasts))) p (.lst [])) (M .parts) (.dct (plD M s.there ++ [((.inl ((s.many + 1 : Nat) : Int) : Key), .ref p)]))) := by
  have T1 : Tr (fun l => l = ML.m) M (mC M x s) S M (fun l => if l = .m then some (.dct (mKvs M x (s.many + 1) (rowM M s.row) s.lasts)) else mC M x s l) (put S (M .m) (.dct (mKvs M x (s.many + 1) (rowM M s.row) s.lasts))) :=
    Rep.set R (l := .m) rfl (if_pos rfl) fun l' hl => if_neg hl
  have dead : mC M x s (.pl (s.many + 1)) = none := if_neg fun z => z.elim (fun h => by have := w.tin _ h; omega) fun h => by have := g.rin _ h; omega
  have hp1 : put S (M .m) (.dct (mKvs M x (s.many + 1) (rowM M s.row) s.lasts)) p = none := by rw [put_ne (fun z => by have := m_m R; rw [← z, hp] at this; cases this)]; exact hp
  have T2 : Tr (fun l => l = ML.m) M (fun l => if l = .m then some (.dct (mKvs M x (s.many + 1) (rowM M s.row) s.lasts)) else mC M x s l) (put S (M .m) (.dct (mKvs M x (s.many + 1) (rowM M s.row) s.lasts))) (fun y => if y = .pl (s.many + 1) then p else M y)
      (fun l => if l = .pl (s.many + 1) then some (.lst []) else if l = .m then some (.dct (mKvs M x (s.many + 1) (rowM M s.row) s.lasts)) else mC M x s l) (put (put S (M .m) (.dct (mKvs M x (s.many + 1) (rowM M s.row) s.lasts))) p (.lst [])) := by
    refine T1.rep.new (l := .pl (s.many + 1)) hp1 (by rw [if_neg (by exact nofun)]; exact dead) (if_pos rfl) (fun l' h => ?_) (if_pos rfl) fun l' h => if_neg h
    rw [if_neg]
    intro z
    subst z
    exact h (by rw [if_neg (by exact nofun)]; exact dead)
  refine (T1.trans T2 fun l hl h => by subst hl; exact nofun).trans (T2.rep.set (l := .parts) (o := .dct (plD M s.there)) rfl ?_ fun l' hl => ?_) (fun l hl h => by subst hl; exact nofun)
  · show some (O.dct (plD _ (s.there ++ [s.many + 1]))) = _
    rw [plD_snoc, plD_upd fun i hi => by have := w.tin i hi; omega]
    show some (O.dct (plD M s.there ++ [((.inl ((s.many + 1 : Nat) : Int) : Key), .ref (if ML.pl (s.many + 1) = ML.pl (s.many + 1) then p else _))])) = _
    rw [if_pos rfl]
  · cases l' with
    | parts => exact absurd rfl hl
    | rest =>
      show some (O.dct (plD _ s.rest)) = some (O.dct (plD M s.rest))
      rw [plD_upd fun i hi => by have := g.rin i hi; omega]
    | pl i =>
      show (if i ∈ s.there ++ [s.many + 1] ∨ i ∈ s.rest then some (O.lst ((s.parts i).map pM)) else none) = if ML.pl i = ML.pl (s.many + 1) then some (.lst []) else if ML.pl i = ML.m then _ else (if i ∈ s.there ∨ i ∈ s.rest then some (O.lst ((s.parts i).map pM)) else none)
      by_cases z : i = s.many + 1
      · subst z
        rw [if_pos (.inl (by simp)), if_pos rfl, w.pz _ (Nat.lt_succ_self _)]
        rfl
      · rw [if_neg (show ¬ ML.pl i = ML.pl (s.many + 1) from fun y => z (by cases y; rfl)), if_neg (show ¬ ML.pl i = ML.m from nofun)]
        have : (i ∈ s.there ++ [s.many + 1] ∨ i ∈ s.rest) ↔ (i ∈ s.there ∨ i ∈ s.rest) := by simp [z]
        simp only [this]
    | m =>
      show some (O.dct (mKvs _ x (s.many + 1) (rowM _ s.row) s.lasts)) = some (O.dct (mKvs M x (s.many + 1) (rowM M s.row) s.lasts))
      cases s.row <;> rfl
    | _ => rfl
end
end HM

set_option Elab.async false
set_option linter.all false
set_option maxRecDepth 100000
/-! ### halls without an ender: the row comes to its end; what it leaves as it is -/
namespace HM
open PySem L2 DL
def RowZ (s : Hs) : Prop := ∀ l, s.row = some l → ∀ n ∈ l, n ∈ s.there ∧ s.cnt n = 0
theorem RowZ.loosed {s : Hs} {v : Vl} (z : RowZ s) (g : GoodP s v) : RowZ (s.loosed v) := by
  cases v with
  | no d => exact z
  | th j =>
    have hd : RowZ (s.dec j) := fun l hl n hn => by
      obtain ⟨h1, h2⟩ := z l hl n hn
      refine ⟨h1, ?_⟩
      show fset s.cnt j (s.cnt j - 1) n = 0
      rw [fset_ne, h2]
      intro e
      subst e
      have := g.cnt n
      rw [h2, one_th, if_pos rfl] at this
      omega
    rw [loosed_th]
    split
    · rename_i he
      obtain ⟨e1, e2, e3⟩ := enqs_iff.mp he
      intro l hl n hn
      obtain ⟨l0, h0, rfl⟩ := Option.map_eq_some_iff.mp (show s.row.map (· ++ [j]) = some l from hl)
      rcases List.mem_append.mp hn with hn | hn
      · exact hd l0 h0 n hn
      · rw [List.mem_singleton.mp hn]; exact ⟨e2, e1⟩
    · exact hd
theorem RowZ.emptied {n : Nat} : ∀ {l : List (Key × Vl)} {s : Hs}, RowZ s → Good s → Wf s → n ∈ s.rest → s.parts n = l → RowZ (s.emptied n l)
  | [], s, z, _, _, _, _ => z
  | kv :: l, s, z, g, w, hn, h => by
    have g1 := g.part w (.inr hn) h
    have z1 : RowZ { s with parts := fset s.parts n l } := z
    exact RowZ.emptied (l := l) (z1.loosed g1) g1.loosed ((w.part h).loosed _) (by rw [loosed_rest]; exact hn) (by rw [loosed_parts]; exact fset_same)
/-- what a row leaves as it is -/
structure Kp (s s' : Hs) : Prop where
  mine : s'.mine = s.mine
  out : ∀ j, s'.outer.count j = s.outer.count j
  len : s'.outer.length = s.outer.length
  many : s'.many = s.many
  shr : ∀ n, (s'.parts n).Sublist (s.parts n)
  asked : s'.asked = s.asked
  ends : s'.ends = s.ends
  told : s'.told = s.told
  lasts : s'.lasts = s.lasts
  form : s'.form = s.form
  own : s'.own = s.own
  there : ∀ n, n ∈ s'.there → n ∈ s.there
theorem Kp.refl (s : Hs) : Kp s s := ⟨rfl, fun _ => rfl, rfl, rfl, fun _ => List.Sublist.refl _, rfl, rfl, rfl, rfl, rfl, rfl, fun _ h => h⟩
theorem Kp.trans {s s1 s2 : Hs} (a : Kp s s1) (b : Kp s1 s2) : Kp s s2 := ⟨b.mine.trans a.mine, fun j => (b.out j).trans (a.out j), b.len.trans a.len, b.many.trans a.many, fun n => (b.shr n).trans (a.shr n), b.asked.trans a.asked, b.ends.trans a.ends, b.told.trans a.told, b.lasts.trans a.lasts, b.form.trans a.form, b.own.trans a.own, fun n h => a.there n (b.there n h)⟩
theorem Kp.loosed (s : Hs) (v : Vl) : Kp s (s.loosed v) := by
  cases v with
  | no d => exact Kp.refl s
  | th j =>
    rw [loosed_th]
    split
    · exact ⟨rfl, fun _ => rfl, rfl, rfl, fun _ => List.Sublist.refl _, rfl, rfl, rfl, rfl, rfl, rfl, fun _ h => h⟩
    · exact ⟨rfl, fun _ => rfl, rfl, rfl, fun _ => List.Sublist.refl _, rfl, rfl, rfl, rfl, rfl, rfl, fun _ h => h⟩
theorem Kp.emptied {n : Nat} : ∀ {l : List (Key × Vl)} {s : Hs}, s.parts n = l → Kp s (s.emptied n l)
  | [], s, _ => Kp.refl s
  | kv :: l, s, h => by
    have k1 : Kp s { s with parts := fset s.parts n l } := ⟨rfl, fun _ => rfl, rfl, rfl, fun i => by
      show (fset s.parts n l i).Sublist _
      by_cases z : i = n
      · subst z; rw [fset_same, h]; exact List.sublist_cons_self ..
      · rw [fset_ne z]; exact List.Sublist.refl _, rfl, rfl, rfl, rfl, rfl, rfl, fun _ h => h⟩
    exact (k1.trans (Kp.loosed _ kv.2)).trans (Kp.emptied (l := l) (by rw [loosed_parts]; exact fset_same))
theorem turn_no {s s' : Hs} {n : Nat} (t : Turn askNo s n s') (w : Wf s) (g : Good s) : Kp s s' := by
  cases t with
  | pass _ => exact ⟨rfl, fun _ => rfl, rfl, rfl, fun _ => List.Sublist.refl _, rfl, rfl, rfl, rfl, rfl, rfl, fun _ h => h⟩
  | stay h1 h2 h3 =>
    rename_i s1
    cases (show s1 = (s.unwait n).up n from h2)
    exfalso
    apply h3
    show fset (fset s.cnt n (s.cnt n + 1)) n (fset s.cnt n (s.cnt n + 1) n - 1) n = 0
    rw [fset_same, fset_same]
    have := g.nonneg n
    have : ¬ 0 < s.cnt n := fun z => h1 (.inl z)
    omega
  | go h1 h2 h3 =>
    rename_i s1
    cases (show s1 = (s.unwait n).up n from h2)
    have hno : n ∉ s.outer := fun z => by
      have h4 := g.eq n
      unfold cntF at h4
      have := List.count_pos_iff.mpr z
      have : ¬ 0 < s.cnt n := fun z => h1 (.inl z)
      omega
    have hk : Kp s ((((s.unwait n).up n).down n).gone n) := by
      refine ⟨rfl, fun j => ?_, ?_, rfl, fun _ => List.Sublist.refl _, rfl, rfl, rfl, rfl, rfl, rfl, fun i hi => (List.mem_filter.mp hi).1⟩
      · show ((s.outer ++ [n]).erase n).count j = _
        rw [List.erase_append_right _ hno]
        simp
      · show ((s.outer ++ [n]).erase n).length = _
        rw [List.erase_append_right _ hno]
        simp
    have k2 := hk.trans (Kp.emptied (n := n) rfl)
    exact ⟨k2.mine, k2.out, k2.len, k2.many, k2.shr, k2.asked, k2.ends, k2.told, k2.lasts, k2.form, k2.own, k2.there⟩
theorem turn_go {s : Hs} {n : Nat} {r : List Nat} (h : s.row = some (n :: r)) (z : RowZ s) : Turn askNo { s with row := some r } n ((((((Hs.unwait { s with row := some r } n).up n).down n).gone n).emptied n (s.parts n)).bare n) := by
  obtain ⟨h1, h2⟩ := z _ h n (List.mem_cons_self ..)
  refine Turn.go (s1 := (Hs.unwait { s with row := some r } n).up n) (fun y => y.elim (fun y => by have : 0 < s.cnt n := y; omega) fun y => y h1) rfl ?_
  show fset (fset s.cnt n (s.cnt n + 1)) n (fset s.cnt n (s.cnt n + 1) n - 1) n = 0
  rw [fset_same, fset_same, h2]
  rfl
theorem emptied_there {n : Nat} : ∀ (l : List (Key × Vl)) (s : Hs), (s.emptied n l).there = s.there
  | [], s => rfl
  | kv :: l, s => by
    show ((({ s with parts := fset s.parts n l } : Hs).loosed kv.2).emptied n l).there = _
    rw [emptied_there l, loosed_there]
theorem work_ex : ∀ (k : Nat) (s : Hs) (l : List Nat), s.there.length ≤ k → s.row = some l → Wf s → Good s → RowZ s → ∃ f s', Work askNo f s s'
  | k, s, [], _, h, _, _, _ => ⟨0, _, .done h⟩
  | 0, s, n :: r, hk, h, w, g, z => by
    have := (z _ h n (List.mem_cons_self ..)).1
    rw [List.length_eq_zero_iff.mp (Nat.le_zero.mp hk)] at this
    cases this
  | k + 1, s, n :: r, hk, h, w, g, z => by
    have t := turn_go h z
    obtain ⟨h1, h2⟩ := z _ h n (List.mem_cons_self ..)
    obtain ⟨w1, w2, _⟩ := w.rowTail h
    have hlt : n ∉ r := w2
    have g1 : Good { s with row := some r } := ⟨g.cnt, g.rnd, g.rt, g.rin, g.oin⟩
    have hb := w.tin n h1
    have wf1 := Turn.wf askNo_ok t w1 fun l hl => by cases hl; exact w2
    have gA : Good (((Hs.unwait { s with row := some r } n).up n).down n) := ((Good.unwait g1).up hb.2).down (List.mem_append_right _ (List.mem_singleton.mpr rfl))
    have wA : Wf (((Hs.unwait { s with row := some r } n).up n).down n) := ((w1.unwait fun l hl => by cases hl; exact w2).up n).down n
    have gB := gA.gone wA h1
    have wB := wA.gone h1
    have hmem : n ∈ ((((Hs.unwait { s with row := some r } n).up n).down n).gone n).rest := List.mem_append_right _ (List.mem_singleton.mpr rfl)
    have zB : RowZ ((((Hs.unwait { s with row := some r } n).up n).down n).gone n) := fun l hl i hi => by
      cases hl
      obtain ⟨a, b⟩ := z _ h i (List.mem_cons_of_mem _ hi)
      have ne : i ≠ n := fun e => hlt (e ▸ hi)
      refine ⟨List.mem_filter.mpr ⟨a, by simpa using ne⟩, ?_⟩
      show fset (fset s.cnt n (s.cnt n + 1)) n _ i = 0
      rw [fset_ne ne, fset_ne ne, b]
    have zC := zB.emptied (n := n) gB wB hmem rfl
    obtain ⟨gC, pC, _, _⟩ := gB.emptied (n := n) wB hmem rfl
    have hrow : ((((((Hs.unwait { s with row := some r } n).up n).down n).gone n).emptied n (s.parts n)).bare n).row ≠ none := fun y => by
      have := (emptied_row _ _).mp (show (((((Hs.unwait { s with row := some r } n).up n).down n).gone n).emptied n (s.parts n)).row = none from y)
      cases this
    obtain ⟨l', hl'⟩ := Option.ne_none_iff_exists'.mp hrow
    obtain ⟨f, s', hw⟩ := work_ex k _ l' (by
      show (((((Hs.unwait { s with row := some r } n).up n).down n).gone n).emptied n (s.parts n)).there.length ≤ k
      rw [emptied_there]
      show (s.there.filter fun i => decide (i ≠ n)).length ≤ k
      have : (s.there.filter fun i => decide (i ≠ n)).length < s.there.length := List.length_filter_lt_length_iff_exists.mpr ⟨n, h1, by simp⟩
      omega) hl' wf1.1 (gC.bare pC) zC
    exact ⟨f + 1, s', .step h t hw⟩
theorem work_no {f : Nat} {s s' : Hs} (t : Work askNo f s s') (w : Wf s) (g : Good s) : Kp s s' ∧ s'.row = none := by
  induction t with
  | done h => exact ⟨⟨rfl, fun _ => rfl, rfl, rfl, fun _ => List.Sublist.refl _, rfl, rfl, rfl, rfl, rfl, rfl, fun _ h => h⟩, rfl⟩
  | @step f n r s s1 s2 h1 h2 h3 ih =>
    obtain ⟨w1, w2, _⟩ := w.rowTail h1
    have g1 : Good { s with row := some r } := ⟨g.cnt, g.rnd, g.rt, g.rin, g.oin⟩
    have k1 := turn_no h2 w1 g1
    have hwf := (Turn.wf askNo_ok h2 w1 fun l hl => by cases hl; exact w2).1
    have hg : Good s1 := by
      cases h2 with
      | pass _ => exact g1.unwait
      | stay a b c =>
        rename_i s3
        cases (show s3 = (Hs.unwait { s with row := some r } n).up n from b)
        have hn : n ∈ s.there := Classical.not_not.mp fun z => a (.inr z)
        exact ((Good.unwait g1).up (w.tin n hn).2).down (List.mem_append_right _ (List.mem_singleton.mpr rfl))
      | go a b c =>
        rename_i s3
        cases (show s3 = (Hs.unwait { s with row := some r } n).up n from b)
        have hn : n ∈ s.there := Classical.not_not.mp fun z => a (.inr z)
        have gA : Good (((Hs.unwait { s with row := some r } n).up n).down n) := ((Good.unwait g1).up (w.tin n hn).2).down (List.mem_append_right _ (List.mem_singleton.mpr rfl))
        have wA : Wf (((Hs.unwait { s with row := some r } n).up n).down n) := ((w1.unwait fun l hl => by cases hl; exact w2).up n).down n
        obtain ⟨gC, pC, _, _⟩ := (gA.gone wA hn).emptied (n := n) (wA.gone hn) (List.mem_append_right _ (List.mem_singleton.mpr rfl)) rfl
        exact gC.bare pC
    obtain ⟨k2, e⟩ := ih hwf hg
    exact ⟨⟨k2.mine.trans k1.mine, fun j => (k2.out j).trans (k1.out j), k2.len.trans k1.len, k2.many.trans k1.many, fun n => (k2.shr n).trans (k1.shr n), k2.asked.trans k1.asked, k2.ends.trans k1.ends, k2.told.trans k1.told, k2.lasts.trans k1.lasts, k2.form.trans k1.form, k2.own.trans k1.own, fun n h => k1.there n (k2.there n h)⟩, e⟩
theorem loose_ex {s : Hs} {v : Vl} (w : Wf s) (g : GoodP s v) (hr : s.row = none) : ∃ s', Loose askNo s v s' ∧ Kp s s' ∧ s'.row = none := by
  cases v with
  | no d => exact ⟨s, .no, Kp.refl s, hr⟩
  | th n =>
    cases he : (s.dec n).enqs n with
    | false => exact ⟨_, .kept he, ⟨rfl, fun _ => rfl, rfl, rfl, fun _ => List.Sublist.refl _, rfl, rfl, rfl, rfl, rfl, rfl, fun _ h => h⟩, hr⟩
    | true =>
      obtain ⟨e1, e2, e3⟩ := enqs_iff.mp he
      have w1 := (w.dec n).enq he
      have g1 := g.loosed
      rw [loosed_th, if_pos he] at g1
      have w2 : Wf { (s.dec n).enq n with row := some [n] } := ⟨w1.nd, w1.tin, w1.len, w1.most, w1.key, w1.plen, w1.pv, w1.wnd, w1.win, fun l hl => by
        cases hl
        exact ⟨by simp, fun i hi => by rw [List.mem_singleton.mp hi]; exact List.mem_append_right _ (List.mem_singleton.mpr rfl)⟩, w1.pz, w1.az, w1.kok⟩
      have g2 : Good { (s.dec n).enq n with row := some [n] } := ⟨g1.cnt, g1.rnd, g1.rt, g1.rin, g1.oin⟩
      obtain ⟨f, s', hw⟩ := work_ex _ { (s.dec n).enq n with row := some [n] } [n] (Nat.le_refl _) rfl w2 g2 fun l hl i hi => by
        cases hl
        rw [List.mem_singleton.mp hi]
        exact ⟨e2, e1⟩
      obtain ⟨k, e⟩ := work_no hw w2 g2
      exact ⟨s', .work he hr hw, ⟨k.mine, k.out, k.len, k.many, k.shr, k.asked, k.ends, k.told, k.lasts, k.form, k.own, k.there⟩, e⟩
end HM

set_option Elab.async false
set_option linter.all false
set_option maxRecDepth 100000
namespace K
open PySem L2 Evl EX DL
def top (i : Nat) : Stmt := PySem.Challenge.pw_snakehall_k30_swept_in_order.main.body.getD i (.Pass ⟨0, 0, 0, 0⟩)
abbrev s__law_mixed : Stmt := top 11
abbrev N__law_mixed : List Str := ["_law_number", "_law_k", "_law_once", "_law_twice"]
theorem sc__law_mixed : FnScope N__law_mixed ["_law_number", "_law_k"] (defScope s__law_mixed) := ⟨rfl, rfl, rfl, by decide +kernel, rfl, by decide +kernel, by decide +kernel⟩
abbrev s__law_well : Stmt := top 12
abbrev N__law_well : List Str := ["_law_script", "_law_first", "_law_cells"]
theorem sc__law_well : FnScope N__law_well ["_law_script", "_law_first"] (defScope s__law_well) := ⟨rfl, rfl, rfl, by decide +kernel, rfl, by decide +kernel, by decide +kernel⟩
abbrev s__law_dig : Stmt := top 13
abbrev N__law_dig : List Str := ["_law_well_here", "_law_most", "_law_number"]
theorem sc__law_dig : FnScope N__law_dig ["_law_well_here", "_law_most"] (defScope s__law_dig) := ⟨rfl, rfl, rfl, by decide +kernel, rfl, by decide +kernel, by decide +kernel⟩
structure TxtW (mg : Str → Option Value) : Prop where
  len : mg "len" = none
  abs : mg "abs" = none
section
variable {P : Program} {w : World} {K : PySem.W.Frag} {mg : Str → Option Value} {base : Heap}
local macro_rules | `(tactic| walk_at "dl") => `(tactic| try simp only [↓x_forS, ↓x_diSL, ↓x_diKeys, ↓x_lock, ↓x_dictP, ↓x_fld, ↓x_fldS, ↓x_fldA, ↓x_meth, ↓x_make, ↓x_dget, ↓x_din, ↓x_dget1, ↓x_dget2, ↓x_dpop, ↓x_dput, ↓x_listD, ↓x_sortDI, ↓x_lenD, ↓x_isiC, x_icS, x_icI, x_icB, x_icN, x_ioS, x_ioI, x_ioB, x_ioN, ↓x_gSub, ↓x_sortDL, ↓x_eqO, ↓x_ninA, x_catN, x_isBB, x_isBN, x_isBI, x_isBS, x_isBR, ↓x_seq, ↓x_nx, ↓x_pass, ↓x_brk, ↓x_cnt, ↓x_drop, ↓x_ret, ↓x_retN, ↓x_ifS, ↓x_set, ↓x_asg, ↓x_gN, ↓x_gT, ↓x_gsC, ↓x_gsN, ↓x_var, x_rdv, ↓x_c, ↓x_op, ↓x_test, x_tst, ↓x_and, ↓x_or, ↓x_not, ↓x_andV, ↓x_orV, ↓x_notV, x_tstV, ↓x_ifE, x_true, x_false, ↓x_nil, ↓x_cons, ↓x_tup, ↓x_lst, ↓x_new, ↓x_newD, ↓x_call, ↓x_cb, x_oI, x_oIc, x_oS, x_addS, x_isN, x_notN, x_eqI, x_eqS, x_eqIS, x_eqSI, x_eqNS, x_neI, x_neS, x_neB, x_eqB, x_few, x_need, ↓x_ix, x_lenS, x_ixL0, x_ixT0, x_ixT1, x_ixT2, x_ixT3, x_ixT4, x_lenL, x_lenT, x_lenC, x_listL, x_listT, x_tupL, x_tupT, x_strI, x_strS, x_int1, x_intB, x_I1, x_I2, x_cat, x_catT, ↓x_split, ↓x_for, ↓x_cut, ↓x_lc, ↓x_whl, ↓x_diL, ↓x_diT, ↓x_diS, x_itL, x_itC, x_itT, x_itS, ↓x_diR1, ↓x_diR2, ↓x_diE, x_enmL, x_enmC, ↓x_gcN, ↓x_gcT, ↓x_yes, ↓x_ml, ↓x_ms, x_strq, x_ss, x_ssc, x_ssi, ↓x_join, ↓x_aug, x_st2I, ↓x_sl, ↓x_noP, ↓x_part, x_intq, x_slL, x_slC, x_slS, ↓x_in, x_inT, x_inL, x_ninT, x_ninL, x_inN, x_inSS, x_inSI, x_inIS, x_inII, ↓x_sg, x_sgS, x_nsgS, ↓x_eqD, ↓x_inDD, x_mulS, ↓x_isi, x_isiS, x_isiI, x_isiB, x_isiN, x_isiL, x_isiT, ↓x_isTT, x_itI, x_itStr, x_itN, x_itB, x_itLst, x_itTup, ↓x_any, ↓x_all, ↓x_sum, ↓x_srtI, ↓x_srtS, ↓x_intS, ↓x_lenRf, ↓x_tupRf, ↓x_frz', x_flS, x_flI, x_flN, x_flB, x_cs_bool, x_isB_NoneType_bool, x_isB_bool_bool, x_isB_int_bool, x_isB_str_bool, x_isB_list_bool, x_isB_tuple_bool, x_isB_dict_bool, x_cs_int, x_isB_NoneType_int, x_isB_bool_int, x_isB_int_int, x_isB_str_int, x_isB_list_int, x_isB_tuple_int, x_isB_dict_int, x_cs_str, x_isB_NoneType_str, x_isB_bool_str, x_isB_int_str, x_isB_str_str, x_isB_list_str, x_isB_tuple_str, x_isB_dict_str, x_cs_list, x_isB_NoneType_list, x_isB_bool_list, x_isB_int_list, x_isB_str_list, x_isB_list_list, x_isB_tuple_list, x_isB_dict_list, x_cs_tuple, x_isB_NoneType_tuple, x_isB_bool_tuple, x_isB_int_tuple, x_isB_str_tuple, x_isB_list_tuple, x_isB_tuple_tuple, x_isB_dict_tuple, x_cs_dict, x_isB_NoneType_dict, x_isB_bool_dict, x_isB_int_dict, x_isB_str_dict, x_isB_list_dict, x_isB_tuple_dict, x_isB_dict_dict, List.all_cons, List.all_nil, Bool.and_self, Bool.or_false, Bool.or_true, Bool.false_or, Bool.true_or, wipeD, setD, DL.isNon, List.set_cons_zero, List.set_cons_succ, List.getElem?_cons_zero, List.getElem?_cons_succ, List.length_cons, List.length_nil, Nat.zero_add, List.cons_append, List.nil_append, decide_true, decide_false, Bool.not_true, Bool.not_false, true_and, and_true, startD, List.map_cons, List.map_nil, Nat.reduceSub, Nat.reduceLeDiff, Nat.zero_le, Int.reduceLT, Int.reduceLE, and_self, Nat.reduceAdd, List.replicate])
def dMixed : SpD := fun ds S k _ => ∃ n i : Int, ds = [.int n, .int i] ∧ ∀ r : Int, 0 ≤ r → r < 2147483629 → k (.int r) S
theorem ok_mixed {fa : Addr} {fd : FuncData} (F : Fun K "_law_mixed" "_law_mixed" s__law_mixed fa fd) : FnOk P w K mg base CX0 1 fa fd ["_law_number", "_law_k"] (lSp K dMixed) := by
  refine dok F sc__law_mixed (fun ds S q qx ⟨x, b, e, _⟩ => by rw [e]; rfl) ⟨_, fun cdv A outer s H E hr => dss_cons (ds_set (i := 2) sc__law_mixed.nd rfl (Or.inl rfl) (de_op op_mod si_mod (de_op op_mul si_mul (de_op op_add si_add (de_op op_add si_add (de_op op_mod si_mod (de_var 0) (de_int)) (de_op op_mul si_mul (de_int) (de_var 1))) (de_int)) (de_int)) (de_int)))
      (dss_cons (ds_set (i := 3) sc__law_mixed.nd rfl (Or.inl rfl) (de_op op_mod si_mod (de_op op_mul si_mul (de_var 2) (de_op op_add si_add (de_op op_add si_add (de_op op_mod si_mod (de_var 2) (de_int)) (de_var 1)) (de_int))) (de_int)))
      (dss_one (ds_ret (de_op op_mod si_mod (de_op op_add si_add (de_op op_mul si_mul (de_var 3) (de_int)) (de_var 2)) (de_int))))), fun ds S q qx ⟨n, i, hd, hq⟩ => ?_⟩
  subst hd
  walk_at "dl"
  refine needOf (.inl (by decide)) ?_
  walk_at "dl"
  refine needOf (.inr (by decide)) ?_
  walk_at "dl"
  generalize ho : ((n % 1000000007 + 7 * i + 1) * 48271) % 2147483647 = once
  have h0 : 0 ≤ once := by rw [← ho]; exact Int.emod_nonneg _ (by decide)
  have h1 : once < 2147483647 := by rw [← ho]; exact Int.emod_lt_of_pos _ (by decide)
  refine needOf (.inl ⟨by omega, by omega⟩) ?_
  walk_at "dl"
  refine needOf (.inr (by decide)) ?_
  walk_at "dl"
  exact hq _ (Int.emod_nonneg _ (by decide)) (Int.emod_lt_of_pos _ (by decide))
/-- a well -/
def Well (S : Sto) (w : Addr) : Prop := ∃ (a : Bool) (b c d : Int) (cs : List Int), S w = some (.lst [.bl a, .int b, .int c, .int d, .list (cs.map D.int)]) ∧ 0 < cs.length ∧ cs.length ≤ 100 ∧ 0 ≤ b ∧ 0 ≤ c ∧ 0 ≤ d
def dWell : SpD := fun ds S k _ => ∃ (ns : List Int) (i : Int), ds = [.scr (ns.map D.int), .int i] ∧ ns.length ≤ 63 ∧ ∀ p S', S p = none → Well S' p → (∀ x, x ≠ p → S' x = S x) → k (.ref p) S'
theorem ok_well {fa : Addr} {fd : FuncData} (F : Fun K "_law_well" "_law_well" s__law_well fa fd) (T : TxtW mg) : FnOk P w K mg base CX0 1 fa fd ["_law_script", "_law_first"] (lSp K dWell) := by
  refine dok F sc__law_well (fun ds S q qx ⟨x, b, e, _⟩ => by rw [e]; rfl) ⟨_, fun cdv A outer s H E hr => dss_cons (ds_set (i := 2) sc__law_well.nd rfl (Or.inl rfl) (de_op op_cat si_cat (de_slice (slL (K := K)) si_slL (de_var 0) (do_some (de_var 1)) do_none) (de_lst (da_cons (de_int) da_nil))))
      (dss_one (ds_ret (de_new (da_cons (de_cmp op_lt si_lt (de_callB call_abs si_abs (by rfl) T.abs (by decide +kernel) (da_cons (de_ix ix_seq (si_ix rfl) (de_var 2) (de_int) (fun _ _ => rfl)) da_nil)) (de_op op_pow si_pow (de_int) (de_int)) (nomark _)) (da_cons (de_int) (da_cons (de_callB call_abs si_abs (by rfl) T.abs (by decide +kernel) (da_cons (de_ix ix_seq (si_ix rfl) (de_var 2) (de_int) (fun _ _ => rfl)) da_nil)) (da_cons (de_int) (da_cons (de_var 2) da_nil)))))))), fun ds S q qx ⟨ns, i, hd, hl, hq⟩ => ?_⟩
  subst hd
  walk_at "dl"
  have hlen : (cutD (ns.map D.int) (some i) none).length ≤ 63 := by
    unfold cutD
    rw [List.length_take, List.length_drop, List.length_map]
    omega
  refine fewOf (by omega) ?_
  obtain ⟨cs, hcs⟩ : ∃ cs : List Int, cutD (ns.map D.int) (some i) none ++ [D.int 0] = cs.map D.int := ⟨((ns.drop (HT.sIx ns.length 0 (some i))).take (HT.sIx ns.length ns.length none - HT.sIx ns.length 0 (some i))) ++ [0], by
    unfold cutD
    rw [List.length_map, List.map_append, List.map_take, List.map_drop]
    rfl⟩
  have hcl : cs.length = (cutD (ns.map D.int) (some i) none).length + 1 := by
    have := congrArg List.length hcs
    rw [List.length_append, List.length_map] at this
    exact this.symm
  rw [hcs]
  obtain ⟨c, cs', rfl⟩ : ∃ c cs', cs = c :: cs' := by
    cases cs with
    | nil => simp at hcl
    | cons c cs' => exact ⟨c, cs', rfl⟩
  walk_at "dl"
  refine needOf ⟨by decide, by decide, by decide⟩ ?_
  walk_at "dl"
  refine freshOf fun p hp => ?_
  refine hq p _ hp ⟨_, _, _, _, c :: cs', put_same, by simp, by rw [hcl]; omega, by decide, ?_, by decide⟩ fun x hx => put_ne hx
  split <;> omega
def dDig : SpD := fun ds S k _ => ∃ (w : Addr) (n : Int), ds = [.ref w, .int n] ∧ Well S w ∧ 0 < n ∧ n < 1073741824 ∧ ∀ (r : Nat) S', (r : Int) < n → Well S' w → (∀ x, x ≠ w → S' x = S x) → k (.int (r : Int)) S'
theorem ok_dig {fa : Addr} {fd : FuncData} (F : Fun K "_law_dig" "_law_dig" s__law_dig fa fd) (T : TxtW mg) (G__law_mixed : DefD P w K mg base 1 "_law_mixed" ["_law_number", "_law_k"] dMixed) : FnOk P w K mg base CX0 2 fa fd ["_law_well_here", "_law_most"] (lSp K dDig) := by
  refine dok F sc__law_dig (fun ds S q qx ⟨x, b, e, _⟩ => by rw [e]; rfl) ⟨_, fun cdv A outer s H E hr => dss_cons (ds_asg (de_op op_add si_add (de_ix ix_seq (si_ix rfl) (de_var 0) (de_int) (fun _ _ => rfl)) (de_int)) (dg_sub (de_var 0) (de_int)))
      (dss_cons (ds_if (dt_val (de_ix ix_seq (si_ix rfl) (de_var 0) (de_int) (fun _ _ => rfl)))
        (dss_one (ds_ret (de_op op_mod si_mod (de_call G__law_mixed (hr.mono (by decide)) (by rfl) (da_cons (de_ix ix_seq (si_ix rfl) (de_ix ix_seq (si_ix rfl) (de_var 0) (de_int) (fun _ _ => rfl)) (de_op op_mod si_mod (de_ix ix_seq (si_ix rfl) (de_var 0) (de_int) (fun _ _ => rfl)) (de_callB call_len (si_len rfl) (by rfl) T.len (by decide +kernel) (da_cons (de_ix ix_seq (si_ix rfl) (de_var 0) (de_int) (fun _ _ => rfl)) da_nil))) (fun _ _ => rfl)) (da_cons (de_ix ix_seq (si_ix rfl) (de_var 0) (de_int) (fun _ _ => rfl)) da_nil))) (de_var 1))))
        (dss_nil))
      (dss_cons (ds_set (i := 2) sc__law_dig.nd rfl (Or.inl rfl) (de_op op_mod si_mod (de_ix ix_seq (si_ix rfl) (de_var 0) (de_int) (fun _ _ => rfl)) (de_var 1)))
      (dss_cons (ds_asg (de_op op_fdiv si_fdiv (de_ix ix_seq (si_ix rfl) (de_var 0) (de_int) (fun _ _ => rfl)) (de_var 1)) (dg_sub (de_var 0) (de_int)))
      (dss_cons (ds_if (PW.pt (dw_and (dt_cmp op_eq si_eq (de_ix ix_seq (si_ix rfl) (de_var 0) (de_int) (fun _ _ => rfl)) (de_int) (nomark _)) (dw_and1 (dt_cmp op_lt si_lt (de_ix ix_seq (si_ix rfl) (de_var 0) (de_int) (fun _ _ => rfl)) (de_callB call_len (si_len rfl) (by rfl) T.len (by decide +kernel) (da_cons (de_ix ix_seq (si_ix rfl) (de_var 0) (de_int) (fun _ _ => rfl)) da_nil)) (nomark _)))))
        (dss_cons (ds_asg (de_callB call_abs si_abs (by rfl) T.abs (by decide +kernel) (da_cons (de_ix ix_seq (si_ix rfl) (de_ix ix_seq (si_ix rfl) (de_var 0) (de_int) (fun _ _ => rfl)) (de_ix ix_seq (si_ix rfl) (de_var 0) (de_int) (fun _ _ => rfl)) (fun _ _ => rfl)) da_nil)) (dg_sub (de_var 0) (de_int)))
        (dss_one (ds_asg (de_op op_add si_add (de_ix ix_seq (si_ix rfl) (de_var 0) (de_int) (fun _ _ => rfl)) (de_int)) (dg_sub (de_var 0) (de_int)))))
        (dss_nil))
      (dss_one (ds_ret (de_var 2))))))), fun ds S q qx ⟨wl, n, hd, ⟨a, b, c, d, cs, hw, c0, c1, b0, c2, d0⟩, n0, n1, hq⟩ => ?_⟩
  subst hd
  walk_at "dl"
  refine ixSeq (j := 1) hw rfl ?_
  walk_at "dl"
  refine setOf (j := 1) hw rfl ?_
  walk_at "dl"
  have fin : ∀ (S' : Sto) (r : Int) (b c d : Int), 0 ≤ r → r < n → 0 ≤ b → 0 ≤ c → 0 ≤ d → S' wl = some (.lst [.bl a, .int b, .int c, .int d, .list (cs.map D.int)]) → (∀ x, x ≠ wl → S' x = S x) → q (.int r) S' := fun S' r b c d r0 r1 b0 c0' d0 hw' hf => by
    obtain ⟨m, rfl⟩ := Int.eq_ofNat_of_zero_le r0
    exact hq m S' r1 ⟨a, b, c, d, cs, hw', c0, c1, b0, c0', d0⟩ hf
  refine ixSeq (j := 0) put_same rfl ?_
  walk_at "dl"
  cases a with
  | true =>
    walk_at "dl"
    refine ixSeq (j := 4) put_same rfl ?_
    walk_at "dl"
    refine ixSeq (j := 1) put_same rfl ?_
    walk_at "dl"
    refine ixSeq (j := 4) put_same rfl ?_
    walk_at "dl"
    rw [List.length_map]
    refine needOf (by omega) ?_
    walk_at "dl"
    refine ixMem (m := cs.length) (by rw [List.length_map]) (Int.emod_nonneg _ (by omega)) (Int.emod_lt_of_pos _ (by omega)) fun x hx => ?_
    obtain ⟨z, _, rfl⟩ := List.mem_map.mp hx
    refine ixSeq (j := 1) put_same rfl ?_
    walk_at "dl"
    refine ⟨_, _, rfl, fun r r0 r1 => ?_⟩
    walk_at "dl"
    refine needOf n0 ?_
    exact fin _ _ (b + 1) c d (Int.emod_nonneg _ (by omega)) (Int.emod_lt_of_pos _ n0) (by omega) c2 d0 put_same fun x hx => put_ne hx
  | false =>
    walk_at "dl"
    refine ixSeq (j := 2) put_same rfl ?_
    walk_at "dl"
    refine needOf n0 ?_
    walk_at "dl"
    refine ixSeq (j := 2) put_same rfl ?_
    walk_at "dl"
    refine needOf ⟨n0, n1⟩ ?_
    walk_at "dl"
    refine setOf (j := 2) put_same rfl ?_
    walk_at "dl"
    refine ixSeq (j := 2) put_same rfl ?_
    walk_at "dl"
    have q0 : 0 ≤ c % n := Int.emod_nonneg _ (by omega)
    have q1 : c % n < n := Int.emod_lt_of_pos _ n0
    have q2 : 0 ≤ c / n := Int.ediv_nonneg c2 (by omega)
    have fin2 : ∀ (S' : Sto) (b c' d : Int), 0 ≤ b → 0 ≤ c' → 0 ≤ d → S' wl = some (.lst [.bl false, .int b, .int c', .int d, .list (cs.map D.int)]) → (∀ x, x ≠ wl → S' x = S x) → q (.int (c % n)) S' := fun S' b c' d b0 c0' d0 hw' hf => fin S' _ b c' d q0 q1 b0 c0' d0 hw' hf
    rw [put_put]
    have fr : ∀ (o : O) x, x ≠ wl → put S wl o x = S x := fun o x hx => put_ne hx
    refine br (fun _ => ?_) fun _ => ?_
    · walk_at "dl"
      refine ixSeq (j := 3) put_same rfl ?_
      walk_at "dl"
      refine ixSeq (j := 4) put_same rfl ?_
      walk_at "dl"
      rw [List.length_map]
      refine br (fun y => ?_) fun _ => ?_
      · have y : d < cs.length := of_decide_eq_true y
        walk_at "dl"
        refine ixSeq (j := 4) put_same rfl ?_
        walk_at "dl"
        refine ixSeq (j := 3) put_same rfl ?_
        walk_at "dl"
        refine ixMem (m := cs.length) (by rw [List.length_map]) d0 y fun x hx => ?_
        obtain ⟨z, _, rfl⟩ := List.mem_map.mp hx
        walk_at "dl"
        refine setOf (j := 2) put_same rfl ?_
        rw [put_put]
        walk_at "dl"
        refine ixSeq (j := 3) put_same rfl ?_
        walk_at "dl"
        refine setOf (j := 3) put_same rfl ?_
        rw [put_put]
        walk_at "dl"
        exact fin2 _ (b + 1) _ (d + 1) (by omega) (by split <;> omega) (by omega) put_same (fr _)
      · walk_at "dl"
        exact fin2 _ (b + 1) _ d (by omega) q2 d0 put_same (fr _)
    · walk_at "dl"
      exact fin2 _ (b + 1) _ d (by omega) q2 d0 put_same (fr _)
end
end K

set_option Elab.async false
set_option linter.all false
set_option maxRecDepth 100000
namespace K
open PySem L2 Evl EX DL HM
abbrev s_Thing___init__ : Stmt := inClass (top 1) 0
abbrev N_Thing___init__ : List Str := ["self", "form", "number", "own"]
theorem sc_Thing___init__ : FnScope N_Thing___init__ ["self", "form", "number", "own"] (defScope s_Thing___init__) := ⟨rfl, rfl, rfl, by decide +kernel, rfl, by decide +kernel, by decide +kernel⟩
abbrev s_Hall___init__ : Stmt := inClass (top 3) 0
abbrev N_Hall___init__ : List Str := ["self", "ender"]
theorem sc_Hall___init__ : FnScope N_Hall___init__ ["self", "ender"] (defScope s_Hall___init__) := ⟨rfl, rfl, rfl, by decide +kernel, rfl, by decide +kernel, by decide +kernel⟩
abbrev s_Hall_make : Stmt := inClass (top 3) 1
abbrev N_Hall_make : List Str := ["self", "form", "own", "thing"]
theorem sc_Hall_make : FnScope N_Hall_make ["self", "form", "own"] (defScope s_Hall_make) := ⟨rfl, rfl, rfl, by decide +kernel, rfl, by decide +kernel, by decide +kernel⟩
abbrev s_Hall_hold : Stmt := inClass (top 3) 2
abbrev N_Hall_hold : List Str := ["self", "value"]
theorem sc_Hall_hold : FnScope N_Hall_hold ["self", "value"] (defScope s_Hall_hold) := ⟨rfl, rfl, rfl, by decide +kernel, rfl, by decide +kernel, by decide +kernel⟩
abbrev s_Hall_loose : Stmt := inClass (top 3) 3
abbrev N_Hall_loose : List Str := ["self", "value"]
theorem sc_Hall_loose : FnScope N_Hall_loose ["self", "value"] (defScope s_Hall_loose) := ⟨rfl, rfl, rfl, by decide +kernel, rfl, by decide +kernel, by decide +kernel⟩
abbrev s_Hall_put : Stmt := inClass (top 3) 4
abbrev N_Hall_put : List Str := ["self", "thing", "key", "value", "old"]
theorem sc_Hall_put : FnScope N_Hall_put ["self", "thing", "key", "value"] (defScope s_Hall_put) := ⟨rfl, rfl, rfl, by decide +kernel, rfl, by decide +kernel, by decide +kernel⟩
abbrev s_Hall_take : Stmt := inClass (top 3) 5
abbrev N_Hall_take : List Str := ["self", "thing", "key"]
theorem sc_Hall_take : FnScope N_Hall_take ["self", "thing", "key"] (defScope s_Hall_take) := ⟨rfl, rfl, rfl, by decide +kernel, rfl, by decide +kernel, by decide +kernel⟩
abbrev s_Hall_things : Stmt := inClass (top 3) 6
abbrev N_Hall_things : List Str := ["self"]
theorem sc_Hall_things : FnScope N_Hall_things ["self"] (defScope s_Hall_things) := ⟨rfl, rfl, rfl, by decide +kernel, rfl, by decide +kernel, by decide +kernel⟩
abbrev s_Hall_gone : Stmt := inClass (top 3) 7
abbrev N_Hall_gone : List Str := ["self"]
theorem sc_Hall_gone : FnScope N_Hall_gone ["self"] (defScope s_Hall_gone) := ⟨rfl, rfl, rfl, by decide +kernel, rfl, by decide +kernel, by decide +kernel⟩
abbrev s_Hall_let_go : Stmt := inClass (top 3) 9
abbrev N_Hall_let_go : List Str := ["self", "thing"]
theorem sc_Hall_let_go : FnScope N_Hall_let_go ["self", "thing"] (defScope s_Hall_let_go) := ⟨rfl, rfl, rfl, by decide +kernel, rfl, by decide +kernel, by decide +kernel⟩
abbrev s_Hall_work : Stmt := inClass (top 3) 10
abbrev N_Hall_work : List Str := ["self"]
theorem sc_Hall_work : FnScope N_Hall_work ["self"] (defScope s_Hall_work) := ⟨rfl, rfl, rfl, by decide +kernel, rfl, by decide +kernel, by decide +kernel⟩
abbrev s_Hall_turn : Stmt := inClass (top 3) 11
abbrev N_Hall_turn : List Str := ["self", "thing"]
theorem sc_Hall_turn : FnScope N_Hall_turn ["self", "thing"] (defScope s_Hall_turn) := ⟨rfl, rfl, rfl, by decide +kernel, rfl, by decide +kernel, by decide +kernel⟩
abbrev s_Hall_ask_last : Stmt := inClass (top 3) 12
abbrev N_Hall_ask_last : List Str := ["self", "thing", "row"]
theorem sc_Hall_ask_last : FnScope N_Hall_ask_last ["self", "thing"] (defScope s_Hall_ask_last) := ⟨rfl, rfl, rfl, by decide +kernel, rfl, by decide +kernel, by decide +kernel⟩
abbrev s_Hall_be_gone : Stmt := inClass (top 3) 13
abbrev N_Hall_be_gone : List Str := ["self", "thing"]
theorem sc_Hall_be_gone : FnScope N_Hall_be_gone ["self", "thing"] (defScope s_Hall_be_gone) := ⟨rfl, rfl, rfl, by decide +kernel, rfl, by decide +kernel, by decide +kernel⟩
abbrev s_Hall_empty : Stmt := inClass (top 3) 14
abbrev N_Hall_empty : List Str := ["self", "thing", "key"]
theorem sc_Hall_empty : FnScope N_Hall_empty ["self", "thing"] (defScope s_Hall_empty) := ⟨rfl, rfl, rfl, by decide +kernel, rfl, by decide +kernel, by decide +kernel⟩
structure Txt (K : PySem.W.Frag) (mg : Str → Option Value) (CT CH : Addr) : Prop where
  len : mg "len" = none
  int : mg "int" = none
  range : mg "range" = none
  str : mg "str" = none
  isinstance : mg "isinstance" = none
  bool : mg "bool" = none
  sorted : mg "sorted" = none
  list : mg "list" = none
  enumerate : mg "enumerate" = none
  dict : mg "dict" = none
  min : mg "min" = none
  all : mg "all" = none
  tuple : mg "tuple" = none
  set : mg "set" = none
  sum : mg "sum" = none
  Thing : GlD K mg "Thing" (.ref CT)
  Thing_ : ClsD K CT ["form", "number", "count", "parts", "own", "ended", "waits"]
  Hall_ : ClsD K CH ["ender", "many", "there", "left", "row", "lasts"]
  ThingI : IsiC K CT
section
variable {P : Program} {w : World} {K : PySem.W.Frag} {mg : Str → Option Value} {base : Heap} {CT CH : Addr}
local macro_rules | `(tactic| walk_at "dl") => `(tactic| try simp only [↓x_forS, ↓x_diSL, ↓x_diKeys, ↓x_lock, ↓x_dictP, ↓x_fld, ↓x_fldS, ↓x_fldA, ↓x_meth, ↓x_make, ↓x_dget, ↓x_din, ↓x_dget1, ↓x_dget2, ↓x_dpop, ↓x_dput, ↓x_listD, ↓x_sortDI, ↓x_lenD, ↓x_isiC, x_icS, x_icI, x_icB, x_icN, x_ioS, x_ioI, x_ioB, x_ioN, ↓x_gSub, ↓x_sortDL, ↓x_eqO, ↓x_ninA, x_catN, x_isBB, x_isBN, x_isBI, x_isBS, x_isBR, ↓x_seq, ↓x_nx, ↓x_pass, ↓x_brk, ↓x_cnt, ↓x_drop, ↓x_ret, ↓x_retN, ↓x_ifS, ↓x_set, ↓x_asg, ↓x_gN, ↓x_gT, ↓x_gsC, ↓x_gsN, ↓x_var, x_rdv, ↓x_c, ↓x_op, ↓x_test, x_tst, ↓x_and, ↓x_or, ↓x_not, ↓x_andV, ↓x_orV, ↓x_notV, x_tstV, ↓x_ifE, x_true, x_false, ↓x_nil, ↓x_cons, ↓x_tup, ↓x_lst, ↓x_new, ↓x_newD, ↓x_call, ↓x_cb, x_oI, x_oIc, x_oS, x_addS, x_isN, x_notN, x_eqI, x_eqS, x_eqIS, x_eqSI, x_eqNS, x_neI, x_neS, x_neB, x_eqB, x_few, x_need, ↓x_ix, x_lenS, x_ixL0, x_ixT0, x_ixT1, x_ixT2, x_ixT3, x_ixT4, x_lenL, x_lenT, x_lenC, x_listL, x_listT, x_tupL, x_tupT, x_strI, x_strS, x_int1, x_intB, x_I1, x_I2, x_cat, x_catT, ↓x_split, ↓x_for, ↓x_cut, ↓x_lc, ↓x_whl, ↓x_diL, ↓x_diT, ↓x_diS, x_itL, x_itC, x_itT, x_itS, ↓x_diR1, ↓x_diR2, ↓x_diE, x_enmL, x_enmC, ↓x_gcN, ↓x_gcT, ↓x_yes, ↓x_ml, ↓x_ms, x_strq, x_ss, x_ssc, x_ssi, ↓x_join, ↓x_aug, x_st2I, ↓x_sl, ↓x_noP, ↓x_part, x_intq, x_slL, x_slC, x_slS, ↓x_in, x_inT, x_inL, x_ninT, x_ninL, x_inN, x_inSS, x_inSI, x_inIS, x_inII, ↓x_sg, x_sgS, x_nsgS, ↓x_eqD, ↓x_inDD, x_mulS, ↓x_isi, x_isiS, x_isiI, x_isiB, x_isiN, x_isiL, x_isiT, ↓x_isTT, x_itI, x_itStr, x_itN, x_itB, x_itLst, x_itTup, ↓x_any, ↓x_all, ↓x_sum, ↓x_srtI, ↓x_srtS, ↓x_intS, ↓x_lenRf, ↓x_tupRf, ↓x_frz', x_flS, x_flI, x_flN, x_flB, x_cs_bool, x_isB_NoneType_bool, x_isB_bool_bool, x_isB_int_bool, x_isB_str_bool, x_isB_list_bool, x_isB_tuple_bool, x_isB_dict_bool, x_cs_int, x_isB_NoneType_int, x_isB_bool_int, x_isB_int_int, x_isB_str_int, x_isB_list_int, x_isB_tuple_int, x_isB_dict_int, x_cs_str, x_isB_NoneType_str, x_isB_bool_str, x_isB_int_str, x_isB_str_str, x_isB_list_str, x_isB_tuple_str, x_isB_dict_str, x_cs_list, x_isB_NoneType_list, x_isB_bool_list, x_isB_int_list, x_isB_str_list, x_isB_list_list, x_isB_tuple_list, x_isB_dict_list, x_cs_tuple, x_isB_NoneType_tuple, x_isB_bool_tuple, x_isB_int_tuple, x_isB_str_tuple, x_isB_list_tuple, x_isB_tuple_tuple, x_isB_dict_tuple, x_cs_dict, x_isB_NoneType_dict, x_isB_bool_dict, x_isB_int_dict, x_isB_str_dict, x_isB_list_dict, x_isB_tuple_dict, x_isB_dict_dict, List.all_cons, List.all_nil, Bool.and_self, Bool.or_false, Bool.or_true, Bool.false_or, Bool.true_or, wipeD, setD, DL.isNon, List.set_cons_zero, List.set_cons_succ, List.getElem?_cons_zero, List.getElem?_cons_succ, List.length_cons, List.length_nil, Nat.zero_add, List.cons_append, List.nil_append, decide_true, decide_false, Bool.not_true, Bool.not_false, true_and, and_true, startD, List.map_cons, List.map_nil, Nat.reduceSub, Nat.reduceLeDiff, Nat.zero_le, Int.reduceLT, Int.reduceLE, and_self, Nat.reduceAdd, List.replicate])
def dThInit (CT : Addr) : SpD := fun ds S k _ => ∃ (a dx : Addr) (form : Str) (num : Int) (own : D), ds = [.ref a, .str form, .int num, own] ∧ S a = some (.ins CT dx []) ∧
  ∀ pd, S pd = none → k .non (put (put S pd (.dct [])) a (.ins CT dx (thFs (.str form) (.int num) (.int 0) (.ref pd) own (.bl false) (.bl false))))
theorem ok_thinit {fa : Addr} {fd : FuncData} (F : Fun K "__init__" "Thing.__init__" s_Thing___init__ fa fd) (T : Txt K mg CT CH) : FnOk P w K mg base CX0 1 fa fd ["self", "form", "number", "own"] (lSp K (dThInit CT)) := by
  refine dok F sc_Thing___init__ (fun ds S q qx ⟨a, dx, form, num, own, h, _⟩ => by rw [h]; rfl) ⟨_, fun cdv A outer s H E hr => dss_cons (ds_fld T.Thing_ (by decide +kernel) (de_var 0) (de_var 1))
      (dss_cons (ds_fld T.Thing_ (by decide +kernel) (de_var 0) (de_var 2))
      (dss_cons (ds_fld T.Thing_ (by decide +kernel) (de_var 0) (de_int))
      (dss_cons (ds_fld T.Thing_ (by decide +kernel) (de_var 0) (de_newD))
      (dss_cons (ds_fld T.Thing_ (by decide +kernel) (de_var 0) (de_var 3))
      (dss_cons (ds_fld T.Thing_ (by decide +kernel) (de_var 0) (de_bl))
      (dss_one (ds_fld T.Thing_ (by decide +kernel) (de_var 0) (de_bl)))))))), fun ds S q qx ⟨a, dx, form, num, own, hd, ha, h⟩ => ?_⟩
  subst hd
  walk_at "dl"
  refine fldsOf ha (Nat.le_of_ble_eq_true rfl) ?_
  walk_at "dl"
  refine fldsOf put_same (Nat.le_of_ble_eq_true rfl) ?_
  walk_at "dl"
  refine fldsOf put_same (Nat.le_of_ble_eq_true rfl) ?_
  walk_at "dl"
  rw [put_put, put_put]
  refine freshOf fun pd hp => ?_
  have ne : a ≠ pd := sto_ne put_same hp
  rw [put_ne ne.symm] at hp
  walk_at "dl"
  refine fldsOf (by rw [put_ne ne]; exact put_same) (Nat.le_of_ble_eq_true rfl) ?_
  walk_at "dl"
  refine fldsOf put_same (Nat.le_of_ble_eq_true rfl) ?_
  walk_at "dl"
  refine fldsOf put_same (Nat.le_of_ble_eq_true rfl) ?_
  walk_at "dl"
  refine fldsOf put_same (Nat.le_of_ble_eq_true rfl) ?_
  walk_at "dl"
  rw [put_put, put_put, put_put, put_comm ne, put_put]
  exact h pd hp
def dHaInit (CH : Addr) : SpD := fun ds S k _ => ∃ (a dx : Addr) (own : D), ds = [.ref a, own] ∧ S a = some (.ins CH dx []) ∧
  ∀ th lf S', S th = none → S lf = none → th ≠ lf → S' a = some (.ins CH dx (haFs own (.int 0) (.ref th) (.ref lf) .non (.int 0))) → S' th = some (.dct []) → S' lf = some (.lst []) → (∀ b, b ≠ th → b ≠ lf → b ≠ a → S' b = S b) → k .non S'
theorem ok_hainit {fa : Addr} {fd : FuncData} (F : Fun K "__init__" "Hall.__init__" s_Hall___init__ fa fd) (T : Txt K mg CT CH) : FnOk P w K mg base CX0 1 fa fd ["self", "ender"] (lSp K (dHaInit CH)) := by
  refine dok F sc_Hall___init__ (fun ds S q qx ⟨a, dx, own, h, _⟩ => by rw [h]; rfl) ⟨_, fun cdv A outer s H E hr => dss_cons (ds_fld T.Hall_ (by decide +kernel) (de_var 0) (de_var 1))
      (dss_cons (ds_fld T.Hall_ (by decide +kernel) (de_var 0) (de_int))
      (dss_cons (ds_fld T.Hall_ (by decide +kernel) (de_var 0) (de_newD))
      (dss_cons (ds_fld T.Hall_ (by decide +kernel) (de_var 0) (de_new (da_nil)))
      (dss_cons (ds_fld T.Hall_ (by decide +kernel) (de_var 0) (de_non))
      (dss_one (ds_fld T.Hall_ (by decide +kernel) (de_var 0) (de_int))))))), fun ds S q qx ⟨a, dx, own, hd, ha, h⟩ => ?_⟩
  subst hd
  walk_at "dl"
  refine fldsOf ha (Nat.le_of_ble_eq_true rfl) ?_
  walk_at "dl"
  refine fldsOf put_same (Nat.le_of_ble_eq_true rfl) ?_
  walk_at "dl"
  rw [put_put]
  refine freshOf fun th hp => ?_
  have ne : a ≠ th := sto_ne put_same hp
  rw [put_ne ne.symm] at hp
  walk_at "dl"
  refine fldsOf (by rw [put_ne ne]; exact put_same) (Nat.le_of_ble_eq_true rfl) ?_
  walk_at "dl"
  refine freshOf fun lf hl => ?_
  have ne2 : a ≠ lf := sto_ne put_same hl
  rw [put_ne ne2.symm] at hl
  have ne3 : th ≠ lf := sto_ne put_same hl
  rw [put_ne ne3.symm, put_ne ne2.symm] at hl
  walk_at "dl"
  refine fldsOf (by rw [put_ne ne2]; exact put_same) (Nat.le_of_ble_eq_true rfl) ?_
  walk_at "dl"
  refine fldsOf put_same (Nat.le_of_ble_eq_true rfl) ?_
  walk_at "dl"
  refine fldsOf put_same (Nat.le_of_ble_eq_true rfl) ?_
  walk_at "dl"
  rw [put_put, put_put]
  refine h th lf _ hp hl ne3 put_same ?_ ?_ fun b n1 n2 n => ?_
  · rw [put_ne ne.symm, put_ne ne3, put_ne ne.symm]; exact put_same
  · rw [put_ne ne2.symm]; exact put_same
  · rw [put_ne n, put_ne n2, put_ne n, put_ne n1, put_ne n]
end
end K

set_option Elab.async false
set_option linter.all false
set_option maxRecDepth 100000
namespace K
open PySem L2 Evl EX DL HM
section
variable {P : Program} {w : World} {K : PySem.W.Frag} {mg : Str → Option Value} {base : Heap} {CT CH : Addr} {en : D}
local macro_rules | `(tactic| walk_at "dl") => `(tactic| try simp only [↓x_forS, ↓x_diSL, ↓x_diKeys, ↓x_lock, ↓x_dictP, ↓x_fld, ↓x_fldS, ↓x_fldA, ↓x_meth, ↓x_make, ↓x_dget, ↓x_din, ↓x_dget1, ↓x_dget2, ↓x_dpop, ↓x_dput, ↓x_listD, ↓x_sortDI, ↓x_lenD, ↓x_isiC, x_icS, x_icI, x_icB, x_icN, x_ioS, x_ioI, x_ioB, x_ioN, ↓x_gSub, ↓x_sortDL, ↓x_eqO, ↓x_ninA, x_catN, x_isBB, x_isBN, x_isBI, x_isBS, x_isBR, ↓x_seq, ↓x_nx, ↓x_pass, ↓x_brk, ↓x_cnt, ↓x_drop, ↓x_ret, ↓x_retN, ↓x_ifS, ↓x_set, ↓x_asg, ↓x_gN, ↓x_gT, ↓x_gsC, ↓x_gsN, ↓x_var, x_rdv, ↓x_c, ↓x_op, ↓x_test, x_tst, ↓x_and, ↓x_or, ↓x_not, ↓x_andV, ↓x_orV, ↓x_notV, x_tstV, ↓x_ifE, x_true, x_false, ↓x_nil, ↓x_cons, ↓x_tup, ↓x_lst, ↓x_new, ↓x_newD, ↓x_call, ↓x_cb, x_oI, x_oIc, x_oS, x_addS, x_isN, x_notN, x_eqI, x_eqS, x_eqIS, x_eqSI, x_eqNS, x_neI, x_neS, x_neB, x_eqB, x_few, x_need, ↓x_ix, x_lenS, x_ixL0, x_ixT0, x_ixT1, x_ixT2, x_ixT3, x_ixT4, x_lenL, x_lenT, x_lenC, x_listL, x_listT, x_tupL, x_tupT, x_strI, x_strS, x_int1, x_intB, x_I1, x_I2, x_cat, x_catT, ↓x_split, ↓x_for, ↓x_cut, ↓x_lc, ↓x_whl, ↓x_diL, ↓x_diT, ↓x_diS, x_itL, x_itC, x_itT, x_itS, ↓x_diR1, ↓x_diR2, ↓x_diE, x_enmL, x_enmC, ↓x_gcN, ↓x_gcT, ↓x_yes, ↓x_ml, ↓x_ms, x_strq, x_ss, x_ssc, x_ssi, ↓x_join, ↓x_aug, x_st2I, ↓x_sl, ↓x_noP, ↓x_part, x_intq, x_slL, x_slC, x_slS, ↓x_in, x_inT, x_inL, x_ninT, x_ninL, x_inN, x_inSS, x_inSI, x_inIS, x_inII, ↓x_sg, x_sgS, x_nsgS, ↓x_eqD, ↓x_inDD, x_mulS, ↓x_isi, x_isiS, x_isiI, x_isiB, x_isiN, x_isiL, x_isiT, ↓x_isTT, x_itI, x_itStr, x_itN, x_itB, x_itLst, x_itTup, ↓x_any, ↓x_all, ↓x_sum, ↓x_srtI, ↓x_srtS, ↓x_intS, ↓x_lenRf, ↓x_tupRf, ↓x_frz', x_flS, x_flI, x_flN, x_flB, x_cs_bool, x_isB_NoneType_bool, x_isB_bool_bool, x_isB_int_bool, x_isB_str_bool, x_isB_list_bool, x_isB_tuple_bool, x_isB_dict_bool, x_cs_int, x_isB_NoneType_int, x_isB_bool_int, x_isB_int_int, x_isB_str_int, x_isB_list_int, x_isB_tuple_int, x_isB_dict_int, x_cs_str, x_isB_NoneType_str, x_isB_bool_str, x_isB_int_str, x_isB_str_str, x_isB_list_str, x_isB_tuple_str, x_isB_dict_str, x_cs_list, x_isB_NoneType_list, x_isB_bool_list, x_isB_int_list, x_isB_str_list, x_isB_list_list, x_isB_tuple_list, x_isB_dict_list, x_cs_tuple, x_isB_NoneType_tuple, x_isB_bool_tuple, x_isB_int_tuple, x_isB_str_tuple, x_isB_list_tuple, x_isB_tuple_tuple, x_isB_dict_tuple, x_cs_dict, x_isB_NoneType_dict, x_isB_bool_dict, x_isB_int_dict, x_isB_str_dict, x_isB_list_dict, x_isB_tuple_dict, x_isB_dict_dict, List.all_cons, List.all_nil, Bool.and_self, Bool.or_false, Bool.or_true, Bool.false_or, Bool.true_or, wipeD, setD, DL.isNon, List.set_cons_zero, List.set_cons_succ, List.getElem?_cons_zero, List.getElem?_cons_succ, List.length_cons, List.length_nil, Nat.zero_add, List.cons_append, List.nil_append, decide_true, decide_false, Bool.not_true, Bool.not_false, true_and, and_true, startD, List.map_cons, List.map_nil, Nat.reduceSub, Nat.reduceLeDiff, Nat.zero_le, Int.reduceLT, Int.reduceLE, and_self, Nat.reduceAdd, List.replicate])
def dHold (CT CH : Addr) (en : D) : SpD := fun ds S k _ => ∃ (H : HA) (s : Hs) (v : Vl), ds = [.ref (H.a .hall), vD H v] ∧ HRep CT CH en H s S ∧ VOk s.many v ∧ ∀ S', HTr CT CH en H s S H (s.held v) S' → k .non S'
theorem ok_hold {fa : Addr} {fd : FuncData} (F : Fun K "hold" "Hall.hold" s_Hall_hold fa fd) (T : Txt K mg CT CH) : FnOk P w K mg base CX0 1 fa fd ["self", "value"] (lSp K (dHold CT CH en)) := by
  refine dok F sc_Hall_hold (fun ds S q qx ⟨H, s, v, e, _⟩ => by rw [e]; rfl) ⟨_, fun cdv A outer s H E hr => dss_one (ds_if (dt_val (de_callB (clIsi' (K := K)) (si_isiC T.ThingI) (by rfl) T.isinstance (by decide +kernel) (da_cons (de_var 1) (da_cons (de_gl (by rfl) T.Thing) da_nil))))
        (dss_one (ds_fldaug T.Thing_ (by decide +kernel) (de_var 1) (de_int) in_add))
        (dss_nil)), fun ds S q qx ⟨H, s, v, hd, R, hv, hq⟩ => ?_⟩
  subst hd
  cases v with
  | no d =>
    have hn : NoTh d := hv
    walk_at "dl"
    cases hn <;> (simp only [vD]; walk_at "dl"; exact hq _ (HTr.refl R))
  | th n =>
    have e := hrep_t R hv.1 hv.2
    walk_at "dl"
    simp only [vD]
    rw [x_own e]
    walk_at "dl"
    refine fldOf e th_count ?_
    walk_at "dl"
    refine fldsOf e (Nat.le_of_ble_eq_true rfl) ?_
    rw [th_count']
    walk_at "dl"
    exact hq _ (HTr.cnt R hv.1 hv.2 _)
theorem there_some {H : HA} {l : List Nat} {n : Nat} : (gval (l.map fun n : Nat => ((.inl (n : Int), .ref (H.a (.t n))) : Key × D)) (.inl (n : Int))).isSome = decide (n ∈ l) := by
  unfold gval
  rw [Option.isSome_map, Bool.eq_iff_iff, List.find?_isSome, decide_eq_true_iff]
  constructor
  · rintro ⟨x, hx, h⟩
    obtain ⟨m, hm, rfl⟩ := List.mem_map.mp hx
    have := Sum.inl.inj (of_decide_eq_true h)
    rw [show n = m by omega]
    exact hm
  · intro h
    exact ⟨_, List.mem_map.mpr ⟨n, h, rfl⟩, by simp⟩
/-- a thing whose last hold is loosed, a row being at work -/
def dLetIn (CT CH : Addr) (en : D) : SpD := fun ds S k _ => ∃ (H : HA) (s : Hs) (n : Nat), ds = [.ref (H.a .hall), .ref (H.a (.t n))] ∧ HRep CT CH en H s S ∧ Wf s ∧ 1 ≤ n ∧ n ≤ s.many ∧ s.cnt n = 0 ∧ s.row ≠ none ∧
  ∀ S', HTr CT CH en H s S H (if s.enqs n = true then s.enq n else s) S' → k .non S'
theorem row_len {s : Hs} {l : List Nat} (w : Wf s) (h : s.row = some l) : l.length ≤ 5000 := by
  obtain ⟨r1, r2⟩ := w.rnd l h
  have : l.length ≤ s.many := by
    have key : ∀ (m : Nat) (l : List Nat), l.Nodup → (∀ o ∈ l, 1 ≤ o ∧ o ≤ m) → l.length ≤ m := by
      intro m
      induction m with
      | zero =>
        intro l _ h
        cases l with
        | nil => exact Nat.le_refl _
        | cons x r => have := h x (List.mem_cons_self ..); omega
      | succ m ih =>
        intro l nd h
        by_cases e : m + 1 ∈ l
        · have := ih (l.erase (m + 1)) (nd.erase _) fun o ho => by
            have h1 := h o (List.mem_of_mem_erase ho)
            have : o ≠ m + 1 := fun z => (List.Nodup.mem_erase_iff nd).mp ho |>.1 z
            omega
          rw [List.length_erase_of_mem e] at this
          omega
        · have := ih l nd fun o ho => by
            have h1 := h o ho
            have : o ≠ m + 1 := fun z => e (z ▸ ho)
            omega
          omega
    exact key _ l r1 fun o ho => w.win o (r2 o ho)
  have := w.most
  omega
theorem ok_let_in {fa : Addr} {fd : FuncData} (F : Fun K "let_go" "Hall.let_go" s_Hall_let_go fa fd) (T : Txt K mg CT CH) : FnOk P w K mg base CX0 1 fa fd ["self", "thing"] (lSp K (dLetIn CT CH en)) := by
  refine dok F sc_Hall_let_go (fun ds S q qx ⟨H, s, n, e, _⟩ => by rw [e]; rfl) ⟨_, fun cdv A outer s H E hr => dss_cons (ds_if (PW.pt (dw_or (dt_val (de_fld T.Thing_ (by decide +kernel) (de_var 1))) (dw_or1 (dt_dinN (hu_of hr) (de_fld T.Thing_ (by decide +kernel) (de_var 1)) (de_fld T.Hall_ (by decide +kernel) (de_var 0))))))
        (dss_one (ds_retN))
        (dss_nil))
      (dss_cons (ds_fld T.Thing_ (by decide +kernel) (de_var 1) (de_bl))
      (dss_one (ds_if (dt_cmp op_isN si_isN (de_fld T.Hall_ (by decide +kernel) (de_var 0)) (de_non) (nomark _))
        (dss_cons (ds_fld T.Hall_ (by decide +kernel) (de_var 0) (de_new (da_cons (de_var 1) da_nil)))
        (dss_one (ds_never)))
        (dss_one (ds_expr (de_ml PySem.F.slot_list_append PySem.F.type_list_append mt_append si_app (de_fld T.Hall_ (by decide +kernel) (de_var 0)) (da_cons (de_var 1) da_nil))))))), fun ds S q qx ⟨H, s, n, hd, R, W, h1, h2, hc, hr, hq⟩ => ?_⟩
  subst hd
  have e := hrep_t R h1 h2
  walk_at "dl"
  refine fldOf e th_waits ?_
  by_cases hw : n ∈ s.waits
  · rw [decide_eq_true hw]
    walk_at "dl"
    rw [if_neg (by unfold Hs.enqs; simp [hw])] at hq
    exact hq _ (HTr.refl R)
  · rw [decide_eq_false hw]
    walk_at "dl"
    refine fldOf e th_number ?_
    walk_at "dl"
    refine fldOf (hrep_hall R) ha_there ?_
    walk_at "dl"
    refine dninOf (hrep_th R) rfl ?_
    rw [there_some]
    by_cases ht : n ∈ s.there
    · rw [decide_eq_true ht]
      walk_at "dl"
      refine fldsOf e (Nat.le_of_ble_eq_true rfl) ?_
      rw [th_waits']
      rw [if_pos (by unfold Hs.enqs; simp [hw, ht, hc])] at hq
      have R1 := HTr.wait R h1 h2 (s.waits ++ [n]) fun i hi => by simp [hi]
      rw [decide_eq_true (show n ∈ s.waits ++ [n] by simp)] at R1
      obtain ⟨l, hl⟩ : ∃ l, s.row = some l := Option.ne_none_iff_exists'.mp hr
      have hh := hrep_hall R1.rep
      dsimp only at hh
      rw [hl] at hh
      walk_at "dl"
      refine fldOf hh ha_row ?_
      simp only [rowD]
      walk_at "dl"
      refine fldOf hh ha_row ?_
      simp only [rowD]
      walk_at "dl"
      have hrow := hrep_row R1.rep (l := l) hl
      refine needOf (isLOf hrow) ?_
      walk_at "dl"
      refine appOf hrow (by rw [List.length_map]; have := row_len W hl; omega) ?_
      have R2 := HTr.setRow R1.rep (l0 := l) hl (l ++ [n])
      rw [List.map_append] at R2
      refine hq _ (R1.trans ?_)
      have : s.enq n = { s with waits := s.waits ++ [n], row := some (l ++ [n]) } := by unfold Hs.enq; rw [hl]; rfl
      rw [this]
      exact R2
    · rw [decide_eq_false ht]
      walk_at "dl"
      rw [if_neg (by unfold Hs.enqs; simp [ht])] at hq
      exact hq _ (HTr.refl R)
def dLooseIn (CT CH : Addr) (en : D) : SpD := fun ds S k _ => ∃ (H : HA) (s : Hs) (v : Vl), ds = [.ref (H.a .hall), vD H v] ∧ HRep CT CH en H s S ∧ Wf s ∧ VOk s.many v ∧ s.row ≠ none ∧ ∀ S', HTr CT CH en H s S H (s.loosed v) S' → k .non S'
theorem ok_loose_in {fa : Addr} {fd : FuncData} (F : Fun K "loose" "Hall.loose" s_Hall_loose fa fd) (T : Txt K mg CT CH) (G_Hall_let_go : MDef P w K mg base 1 CH "let_go" ["self", "thing"] (lSp K (dLetIn CT CH en))) : FnOk P w K mg base CX0 2 fa fd ["self", "value"] (lSp K (dLooseIn CT CH en)) := by
  refine dok F sc_Hall_loose (fun ds S q qx ⟨H, s, v, e, _⟩ => by rw [e]; rfl) ⟨_, fun cdv A outer s H E hr => dss_one (ds_if (dt_val (de_callB (clIsi' (K := K)) (si_isiC T.ThingI) (by rfl) T.isinstance (by decide +kernel) (da_cons (de_var 1) (da_cons (de_gl (by rfl) T.Thing) da_nil))))
        (dss_cons (ds_fldaug T.Thing_ (by decide +kernel) (de_var 1) (de_int) in_sub)
        (dss_one (ds_if (dt_cmp op_eq si_eq (de_fld T.Thing_ (by decide +kernel) (de_var 1)) (de_int) (nomark _))
          (dss_one (ds_expr (de_meth T.Hall_ G_Hall_let_go (hr.mono (by omega)) (de_var 0) (da_cons (de_var 1) da_nil))))
          (dss_nil))))
        (dss_nil)), fun ds S q qx ⟨H, s, v, hd, R, W, hv, hr, hq⟩ => ?_⟩
  subst hd
  cases v with
  | no d =>
    have hn : NoTh d := hv
    walk_at "dl"
    cases hn <;> (simp only [vD]; walk_at "dl"; exact hq _ (HTr.refl R))
  | th n =>
    have e := hrep_t R hv.1 hv.2
    walk_at "dl"
    simp only [vD]
    rw [x_own e]
    walk_at "dl"
    refine fldOf e th_count ?_
    walk_at "dl"
    refine fldsOf e (Nat.le_of_ble_eq_true rfl) ?_
    rw [th_count']
    have R1 := HTr.cnt R hv.1 hv.2 (s.cnt n - 1)
    walk_at "dl"
    refine fldOf put_same th_count ?_
    walk_at "dl"
    have ed : (s.dec n).cnt n = s.cnt n - 1 := DL.fset_same
    by_cases z : s.cnt n - 1 = 0
    · rw [decide_eq_true z]
      walk_at "dl"
      refine needOf (methOf (x := .non) (hrep_hall R1.rep) rfl) ?_
      walk_at "dl"
      exact ⟨H, s.dec n, n, rfl, R1.rep, W.dec n, hv.1, hv.2, by rw [ed]; exact z, hr, fun S' T => hq S' (R1.trans T)⟩
    · rw [decide_eq_false z]
      walk_at "dl"
      rw [loosed_th, if_neg (by unfold Hs.enqs; rw [ed]; simp [z])] at hq
      exact hq _ R1
end
end K

set_option Elab.async false
set_option linter.all false
set_option maxRecDepth 100000
namespace K
open PySem L2 Evl EX DL HM
section
variable {P : Program} {w : World} {K : PySem.W.Frag} {mg : Str → Option Value} {base : Heap} {CT CH : Addr} {en : D}
local macro_rules | `(tactic| walk_at "dl") => `(tactic| try simp only [↓x_forS, ↓x_diSL, ↓x_diKeys, ↓x_lock, ↓x_dictP, ↓x_fld, ↓x_fldS, ↓x_fldA, ↓x_meth, ↓x_make, ↓x_dget, ↓x_din, ↓x_dget1, ↓x_dget2, ↓x_dpop, ↓x_dput, ↓x_listD, ↓x_sortDI, ↓x_lenD, ↓x_isiC, x_icS, x_icI, x_icB, x_icN, x_ioS, x_ioI, x_ioB, x_ioN, ↓x_gSub, ↓x_sortDL, ↓x_eqO, ↓x_ninA, x_catN, x_isBB, x_isBN, x_isBI, x_isBS, x_isBR, ↓x_seq, ↓x_nx, ↓x_pass, ↓x_brk, ↓x_cnt, ↓x_drop, ↓x_ret, ↓x_retN, ↓x_ifS, ↓x_set, ↓x_asg, ↓x_gN, ↓x_gT, ↓x_gsC, ↓x_gsN, ↓x_var, x_rdv, ↓x_c, ↓x_op, ↓x_test, x_tst, ↓x_and, ↓x_or, ↓x_not, ↓x_andV, ↓x_orV, ↓x_notV, x_tstV, ↓x_ifE, x_true, x_false, ↓x_nil, ↓x_cons, ↓x_tup, ↓x_lst, ↓x_new, ↓x_newD, ↓x_call, ↓x_cb, x_oI, x_oIc, x_oS, x_addS, x_isN, x_notN, x_eqI, x_eqS, x_eqIS, x_eqSI, x_eqNS, x_neI, x_neS, x_neB, x_eqB, x_few, x_need, ↓x_ix, x_lenS, x_ixL0, x_ixT0, x_ixT1, x_ixT2, x_ixT3, x_ixT4, x_lenL, x_lenT, x_lenC, x_listL, x_listT, x_tupL, x_tupT, x_strI, x_strS, x_int1, x_intB, x_I1, x_I2, x_cat, x_catT, ↓x_split, ↓x_for, ↓x_cut, ↓x_lc, ↓x_whl, ↓x_diL, ↓x_diT, ↓x_diS, x_itL, x_itC, x_itT, x_itS, ↓x_diR1, ↓x_diR2, ↓x_diE, x_enmL, x_enmC, ↓x_gcN, ↓x_gcT, ↓x_yes, ↓x_ml, ↓x_ms, x_strq, x_ss, x_ssc, x_ssi, ↓x_join, ↓x_aug, x_st2I, ↓x_sl, ↓x_noP, ↓x_part, x_intq, x_slL, x_slC, x_slS, ↓x_in, x_inT, x_inL, x_ninT, x_ninL, x_inN, x_inSS, x_inSI, x_inIS, x_inII, ↓x_sg, x_sgS, x_nsgS, ↓x_eqD, ↓x_inDD, x_mulS, ↓x_isi, x_isiS, x_isiI, x_isiB, x_isiN, x_isiL, x_isiT, ↓x_isTT, x_itI, x_itStr, x_itN, x_itB, x_itLst, x_itTup, ↓x_any, ↓x_all, ↓x_sum, ↓x_srtI, ↓x_srtS, ↓x_intS, ↓x_lenRf, ↓x_tupRf, ↓x_frz', x_flS, x_flI, x_flN, x_flB, x_cs_bool, x_isB_NoneType_bool, x_isB_bool_bool, x_isB_int_bool, x_isB_str_bool, x_isB_list_bool, x_isB_tuple_bool, x_isB_dict_bool, x_cs_int, x_isB_NoneType_int, x_isB_bool_int, x_isB_int_int, x_isB_str_int, x_isB_list_int, x_isB_tuple_int, x_isB_dict_int, x_cs_str, x_isB_NoneType_str, x_isB_bool_str, x_isB_int_str, x_isB_str_str, x_isB_list_str, x_isB_tuple_str, x_isB_dict_str, x_cs_list, x_isB_NoneType_list, x_isB_bool_list, x_isB_int_list, x_isB_str_list, x_isB_list_list, x_isB_tuple_list, x_isB_dict_list, x_cs_tuple, x_isB_NoneType_tuple, x_isB_bool_tuple, x_isB_int_tuple, x_isB_str_tuple, x_isB_list_tuple, x_isB_tuple_tuple, x_isB_dict_tuple, x_cs_dict, x_isB_NoneType_dict, x_isB_bool_dict, x_isB_int_dict, x_isB_str_dict, x_isB_list_dict, x_isB_tuple_dict, x_isB_dict_dict, List.all_cons, List.all_nil, Bool.and_self, Bool.or_false, Bool.or_true, Bool.false_or, Bool.true_or, wipeD, setD, DL.isNon, List.set_cons_zero, List.set_cons_succ, List.getElem?_cons_zero, List.getElem?_cons_succ, List.length_cons, List.length_nil, Nat.zero_add, List.cons_append, List.nil_append, decide_true, decide_false, Bool.not_true, Bool.not_false, true_and, and_true, startD, List.map_cons, List.map_nil, Nat.reduceSub, Nat.reduceLeDiff, Nat.zero_le, Int.reduceLT, Int.reduceLE, and_self, Nat.reduceAdd, List.replicate])
theorem keyD_dK (k : Key) : keyD (dK k) = some k := by cases k <;> rfl
theorem gval_head {β : Type} {k : Key} {v : β} {r : List (Key × β)} : gval ((k, v) :: r) k = some v := by simp [gval, List.find?_cons]
theorem gdrop_head {β : Type} {k : Key} {v : β} {r : List (Key × β)} (h : k ∉ r.map (·.1)) : gdrop ((k, v) :: r) k = r := by
  unfold gdrop
  rw [List.filter_cons, if_neg (by simp), List.filter_eq_self]
  intro x hx
  rw [decide_eq_true_iff]
  exact fun z => h (List.mem_map.mpr ⟨x, hx, z⟩)
def dEmpty (CT CH : Addr) (en : D) : SpD := fun ds S k _ => ∃ (H : HA) (s : Hs) (n : Nat), ds = [.ref (H.a .hall), .ref (H.a (.t n))] ∧ HRep CT CH en H s S ∧ Wf s ∧ 1 ≤ n ∧ n ≤ s.many ∧ s.row ≠ none ∧ ∀ S', HTr CT CH en H s S H (s.emptied n (s.parts n)) S' → k .non S'
def EmI (CT CH : Addr) (en : D) (H : HA) (s : Hs) (n : Nat) (S : Sto) (i : Nat) (δ : Dst) (S' : Sto) : Prop := ∃ (z : Option D) (si : Hs), δ = [some (.ref (H.a .hall)), some (.ref (H.a (.t n))), z] ∧ HTr CT CH en H s S H si S' ∧ Wf si ∧ si.many = s.many ∧ si.row ≠ none ∧ si.parts n = (s.parts n).drop i ∧ si.emptied n ((s.parts n).drop i) = s.emptied n (s.parts n)
theorem ok_empty {fa : Addr} {fd : FuncData} (F : Fun K "empty" "Hall.empty" s_Hall_empty fa fd) (T : Txt K mg CT CH) (G_Hall_loose : MDef P w K mg base 2 CH "loose" ["self", "value"] (lSp K (dLooseIn CT CH en))) : FnOk P w K mg base CX0 3 fa fd ["self", "thing"] (lSp K (dEmpty CT CH en)) := by
  refine dok F sc_Hall_empty (fun ds S q qx ⟨H, s, n, e, _⟩ => by rw [e]; rfl) ⟨_, fun cdv A outer s H E hr => dss_one (ds_for PassesOwn.never rfl (di_list (K := K) (de_callTy (call_listD rfl) si_listD (by rfl) T.list (by decide +kernel) (da_cons (de_fld T.Thing_ (by decide +kernel) (de_var 1)) da_nil))) (dg_name (i := 2) sc_Hall_empty.nd rfl (Or.inl rfl))
        (dss_one (ds_expr (de_meth T.Hall_ G_Hall_loose (hr.mono (by decide)) (de_var 0) (da_cons (de_dpop (de_fld T.Thing_ (by decide +kernel) (de_var 1)) (de_var 2)) da_nil))))), fun ds S q qx ⟨H, s, n, hd, R, W, h1, h2, hr, hq⟩ => ?_⟩
  subst hd
  have e := hrep_t R h1 h2
  walk_at "dl"
  refine fldOf e th_parts ?_
  walk_at "dl"
  refine listDOf (hrep_pd R h1 h2) ?_
  walk_at "dl"
  refine forOf (EmI CT CH en H s n S) ⟨_, s, rfl, HTr.refl R, W, rfl, hr, rfl, rfl⟩ ?_ ?_
  · rintro i d δ S' hi ⟨z, si, rfl, T1, W1, hm, hr1, hp, he⟩
    obtain ⟨kv, hkv, rfl⟩ := Option.map_eq_some_iff.mp ((List.getElem?_map (f := fun kv : Key × D => dK kv.1)) ▸ hi)
    obtain ⟨kj, hkj, rfl⟩ := Option.map_eq_some_iff.mp ((List.getElem?_map (f := fun kj : Key × Vl => (kj.1, vD H kj.2))) ▸ hkv)
    have hlt := (List.getElem?_eq_some_iff.mp hkj).1
    have hdr : (s.parts n).drop i = kj :: (s.parts n).drop (i + 1) := by
      rw [List.drop_eq_getElem_cons hlt, (List.getElem?_eq_some_iff.mp hkj).2]
    rw [hdr] at hp he
    have hpd := hrep_pd T1.rep h1 (by rw [hm]; exact h2)
    rw [hp, List.map_cons] at hpd
    have hno : kj.1 ∉ (((s.parts n).drop (i + 1)).map fun kv => ((kv.1, vD H kv.2) : Key × D)).map (·.1) := by
      rw [List.map_map]
      have nd := W1.key n
      rw [hp, List.map_cons] at nd
      exact (List.nodup_cons.mp nd).1
    walk_at "dl"
    refine needOf (methOf (x := .non) (hrep_hall T1.rep) rfl) ?_
    walk_at "dl"
    refine fldOf (hrep_t T1.rep h1 (by rw [hm]; exact h2)) th_parts (isDOf hpd ?_)
    walk_at "dl"
    refine dpopOf hpd (keyD_dK _) gval_head ?_
    rw [gdrop_head hno]
    have T2 := HTr.parts T1.rep h1 (by rw [hm]; exact h2) ((s.parts n).drop (i + 1))
    walk_at "dl"
    refine ⟨H, _, kj.2, rfl, T2.rep, W1.part hp, ?_, hr1, fun S3 T3 => ?_⟩
    · exact W1.pv n kj (by rw [hp]; exact List.mem_cons_self ..)
    · refine ⟨_, _, rfl, (T1.trans T2).trans T3, (W1.part hp).loosed _, ?_, ?_, ?_, he⟩
      · rw [loosed_many]; exact hm
      · intro z
        have := (loosed_row _ _).mp z
        exact hr1 this
      · rw [loosed_parts]; exact DL.fset_same
  · rintro δ S' ⟨z, si, rfl, T1, W1, hm, hr1, hp, he⟩
    rw [List.length_map, List.length_map, List.drop_length] at he
    refine hq S' ?_
    rw [← he]
    exact T1
def dBeGone (CT CH : Addr) (en : D) : SpD := fun ds S k _ => ∃ (H : HA) (s : Hs) (n : Nat), ds = [.ref (H.a .hall), .ref (H.a (.t n))] ∧ HRep CT CH en H s S ∧ Wf s ∧ n ∈ s.there ∧ ∀ S', HTr CT CH en H s S H (s.gone n) S' → k .non S'
theorem there_drop {H : HA} {n : Nat} (l : List Nat) : gdrop (l.map fun n : Nat => ((.inl (n : Int), .ref (H.a (.t n))) : Key × D)) (.inl (n : Int)) = (l.filter fun i => decide (i ≠ n)).map fun n : Nat => ((.inl (n : Int), .ref (H.a (.t n))) : Key × D) := by
  unfold gdrop
  rw [List.filter_map]
  congr 1
  refine List.filter_congr fun i _ => ?_
  show decide ((Sum.inl (i : Int) : Key) ≠ Sum.inl (n : Int)) = decide (i ≠ n)
  rw [Bool.eq_iff_iff, decide_eq_true_iff, decide_eq_true_iff]
  constructor
  · intro z y; exact z (by rw [y])
  · intro z y; exact z (by have := Sum.inl.inj y; omega)
theorem ok_be_gone {fa : Addr} {fd : FuncData} (F : Fun K "be_gone" "Hall.be_gone" s_Hall_be_gone fa fd) (T : Txt K mg CT CH) : FnOk P w K mg base CX0 1 fa fd ["self", "thing"] (lSp K (dBeGone CT CH en)) := by
  refine dok F sc_Hall_be_gone (fun ds S q qx ⟨H, s, n, e, _⟩ => by rw [e]; rfl) ⟨_, fun cdv A outer s H E hr => dss_cons (ds_expr (de_dpop (de_fld T.Hall_ (by decide +kernel) (de_var 0)) (de_fld T.Thing_ (by decide +kernel) (de_var 1))))
      (dss_one (ds_expr (de_ml PySem.F.slot_list_append PySem.F.type_list_append mt_append si_app (de_fld T.Hall_ (by decide +kernel) (de_var 0)) (da_cons (de_fld T.Thing_ (by decide +kernel) (de_var 1)) da_nil)))), fun ds S q qx ⟨H, s, n, hd, R, W, ht, hq⟩ => ?_⟩
  subst hd
  obtain ⟨h1, h2⟩ := W.tin n ht
  have e := hrep_t R h1 h2
  walk_at "dl"
  refine fldOf (hrep_hall R) ha_there (isDOf (hrep_th R) ?_)
  walk_at "dl"
  refine fldOf e th_number ?_
  walk_at "dl"
  obtain ⟨v, hv⟩ := Option.isSome_iff_exists.mp (there_some (H := H).trans (decide_eq_true ht))
  refine dpopOf (hrep_th R) rfl hv ?_
  rw [there_drop]
  have T1 := HTr.there R (s.there.filter fun i => decide (i ≠ n))
  walk_at "dl"
  refine fldOf (hrep_hall T1.rep) ha_left ?_
  walk_at "dl"
  have hl := hrep_lf T1.rep
  refine needOf (isLOf hl) ?_
  walk_at "dl"
  refine fldOf (hrep_t T1.rep h1 h2) th_number ?_
  walk_at "dl"
  refine appOf hl (by rw [List.length_map]; show s.left.length < _; have := W.len; have := W.most; omega) ?_
  have T2 := HTr.left T1.rep (s.left ++ [n])
  rw [List.map_append] at T2
  exact hq _ (T1.trans (T2.trans (HTr.ghost T2.rep rfl rfl)))
/-- a last is asked -/
def dAsk (CT CH : Addr) (en : D) (ask : AskR) : SpD := fun ds S k _ => ∃ (H : HA) (s : Hs) (n : Nat) (s' : Hs), ds = [.ref (H.a .hall), .ref (H.a (.t n))] ∧ HRep CT CH en H s S ∧ Wf s ∧ n ∈ s.there ∧ ask s n s' ∧ ∀ H' S', HTr CT CH en H s S H' s' S' → k .non S'
theorem ok_ask_no {fa : Addr} {fd : FuncData} (F : Fun K "ask_last" "Hall.ask_last" s_Hall_ask_last fa fd) (T : Txt K mg CT CH) : FnOk P w K mg base CX0 1 fa fd ["self", "thing"] (lSp K (dAsk CT CH .non askNo)) := by
  refine dok F sc_Hall_ask_last (fun ds S q qx ⟨H, s, n, s', e, _⟩ => by rw [e]; rfl) ⟨_, fun cdv A outer s H E hr => dss_cons (ds_if (PW.pt (dw_or (dt_cmp op_isN si_isN (de_fld T.Hall_ (by decide +kernel) (de_var 0)) (de_non) (nomark _)) (dw_or1 (dt_val (de_fld T.Thing_ (by decide +kernel) (de_var 1))))))
        (dss_one (ds_retN))
        (dss_nil))
      (dss_cons (ds_fld T.Thing_ (by decide +kernel) (de_var 1) (de_bl))
      (dss_cons (ds_set (i := 2) sc_Hall_ask_last.nd rfl (Or.inl rfl) (de_fld T.Hall_ (by decide +kernel) (de_var 0)))
      (dss_cons (ds_fld T.Hall_ (by decide +kernel) (de_var 0) (de_non))
      (dss_cons (ds_fldaug T.Hall_ (by decide +kernel) (de_var 0) (de_int) in_add)
      (dss_cons (ds_never)
      (dss_cons (ds_fldaug T.Hall_ (by decide +kernel) (de_var 0) (de_int) in_sub)
      (dss_one (ds_fld T.Hall_ (by decide +kernel) (de_var 0) (de_var 2))))))))), fun ds S q qx ⟨H, s, n, s', hd, R, W, ht, ha, hq⟩ => ?_⟩
  subst hd
  cases (show s' = s from ha)
  walk_at "dl"
  refine fldOf (hrep_hall R) ha_ender ?_
  walk_at "dl"
  exact hq H _ (HTr.refl R)
def dTurn (CT CH : Addr) (en : D) (ask : AskR) : SpD := fun ds S k _ => ∃ (H : HA) (s : Hs) (n : Nat) (s' : Hs), ds = [.ref (H.a .hall), .ref (H.a (.t n))] ∧ HRep CT CH en H s S ∧ Wf s ∧ 1 ≤ n ∧ n ≤ s.many ∧ s.row ≠ none ∧ (∀ l, s.row = some l → n ∉ l) ∧ Turn ask s n s' ∧ ∀ H' S', HTr CT CH en H s S H' s' S' → k .non S'
theorem ok_turn {La : Nat} {ask : AskR} (KA : AskOk ask) {fa : Addr} {fd : FuncData} (F : Fun K "turn" "Hall.turn" s_Hall_turn fa fd) (T : Txt K mg CT CH) (hL : 3 ≤ La) (G_Hall_ask_last : MDef P w K mg base La CH "ask_last" ["self", "thing"] (lSp K (dAsk CT CH en ask))) (G_Hall_be_gone : MDef P w K mg base 1 CH "be_gone" ["self", "thing"] (lSp K (dBeGone CT CH en)))
    (G_Hall_empty : MDef P w K mg base 3 CH "empty" ["self", "thing"] (lSp K (dEmpty CT CH en))) : FnOk P w K mg base CX0 (La + 1) fa fd ["self", "thing"] (lSp K (dTurn CT CH en ask)) := by
  refine dok F sc_Hall_turn (fun ds S q qx ⟨H, s, n, s', e, _⟩ => by rw [e]; rfl) ⟨_, fun cdv A outer s H E hr => dss_cons (ds_fld T.Thing_ (by decide +kernel) (de_var 1) (de_bl))
      (dss_cons (ds_if (PW.pt (dw_or (dt_cmp op_gt si_gt (de_fld T.Thing_ (by decide +kernel) (de_var 1)) (de_int) (nomark _)) (dw_or1 (dt_dinN (hu_of hr) (de_fld T.Thing_ (by decide +kernel) (de_var 1)) (de_fld T.Hall_ (by decide +kernel) (de_var 0))))))
        (dss_one (ds_retN))
        (dss_nil))
      (dss_cons (ds_fldaug T.Thing_ (by decide +kernel) (de_var 1) (de_int) in_add)
      (dss_cons (ds_expr (de_meth T.Hall_ G_Hall_ask_last (hr.mono (by omega)) (de_var 0) (da_cons (de_var 1) da_nil)))
      (dss_cons (ds_fldaug T.Thing_ (by decide +kernel) (de_var 1) (de_int) in_sub)
      (dss_one (ds_if (dt_cmp op_eq si_eq (de_fld T.Thing_ (by decide +kernel) (de_var 1)) (de_int) (nomark _))
        (dss_cons (ds_expr (de_meth T.Hall_ G_Hall_be_gone (hr.mono (by omega)) (de_var 0) (da_cons (de_var 1) da_nil)))
        (dss_one (ds_expr (de_meth T.Hall_ G_Hall_empty (hr.mono (by omega)) (de_var 0) (da_cons (de_var 1) da_nil)))))
        (dss_nil))))))), fun ds S q qx ⟨H, s, n, s', hd, R, W, h1, h2, hr, hn, ht, hq⟩ => ?_⟩
  subst hd
  have e := hrep_t R h1 h2
  walk_at "dl"
  refine fldsOf e (Nat.le_of_ble_eq_true rfl) ?_
  rw [th_waits']
  have hni : n ∉ s.waits.erase n := fun z => (List.Nodup.mem_erase_iff W.wnd).mp z |>.1 rfl
  have T1 := HTr.wait R h1 h2 (s.waits.erase n) fun i hi => List.mem_erase_of_ne hi
  rw [decide_eq_false hni] at T1
  have W1 : Wf (s.unwait n) := W.unwait hn
  walk_at "dl"
  refine fldOf put_same th_count ?_
  walk_at "dl"
  by_cases hc : 0 < s.cnt n
  · rw [decide_eq_true hc]
    walk_at "dl"
    cases ht with
    | pass _ => exact hq H _ T1
    | stay h _ _ => exact absurd (.inl hc) h
    | go h _ _ => exact absurd (.inl hc) h
  rw [decide_eq_false hc]
  walk_at "dl"
  refine fldOf put_same th_number ?_
  walk_at "dl"
  refine fldOf (hrep_hall T1.rep) ha_there ?_
  walk_at "dl"
  refine dninOf (hrep_th T1.rep) rfl ?_
  rw [there_some]
  by_cases hth : n ∈ s.there
  rotate_left
  · rw [decide_eq_false hth]
    walk_at "dl"
    cases ht with
    | pass _ => exact hq H _ T1
    | stay h _ _ => exact absurd (.inr hth) h
    | go h _ _ => exact absurd (.inr hth) h
  rw [decide_eq_true hth]
  walk_at "dl"
  refine fldOf put_same th_count ?_
  walk_at "dl"
  refine fldsOf put_same (Nat.le_of_ble_eq_true rfl) ?_
  rw [th_count']
  have T2 := HTr.cnt T1.rep h1 h2 (s.cnt n + 1)
  dsimp only at T2
  rw [decide_eq_false hni] at T2
  have T2' : HTr CT CH en H s S H ((s.unwait n).up n) _ := T1.trans (T2.trans (HTr.ghost T2.rep rfl rfl))
  have W2 : Wf ((s.unwait n).up n) := W1.up n
  walk_at "dl"
  refine needOf (methOf (x := .non) (hrep_hall T2'.rep) rfl) ?_
  walk_at "dl"
  obtain ⟨s1, ha, hend⟩ : ∃ s1, ask ((s.unwait n).up n) n s1 ∧ (((s1.down n).cnt n ≠ 0 ∧ s' = s1.down n) ∨ ((s1.down n).cnt n = 0 ∧ s' = (((s1.down n).gone n).emptied n (s1.parts n)).bare n)) := by
    cases ht with
    | pass h => exact absurd h (fun z => z.elim (fun y => hc y) fun y => y hth)
    | stay _ h1 h2 => exact ⟨_, h1, .inl ⟨h2, rfl⟩⟩
    | go _ h1 h2 => exact ⟨_, h1, .inr ⟨h2, rfl⟩⟩
  refine ⟨H, _, n, s1, rfl, T2'.rep, W2, hth, ha, fun H1 S1 T3 => ?_⟩
  have m1 : s.many ≤ s1.many := by have := KA.many ha; exact this
  have W3 := KA.wf ha W2 hth
  have et : H1.a (.t n) = H.a (.t n) := T3.t h1 h2
  have eh : H1.a .hall = H.a .hall := T3.hall
  have e3 := hrep_t T3.rep h1 (Nat.le_trans h2 m1)
  rw [et] at e3
  walk_at "dl"
  refine fldOf e3 th_count ?_
  walk_at "dl"
  refine fldsOf e3 (Nat.le_of_ble_eq_true rfl) ?_
  rw [th_count']
  have T4 := HTr.cnt T3.rep h1 (Nat.le_trans h2 m1) (s1.cnt n - 1)
  rw [et] at T4
  have T5 : HTr CT CH en H s S H1 (s1.down n) _ := (T2'.trans T3).trans (T4.trans (HTr.ghost T4.rep rfl rfl))
  have ed : (s1.down n).cnt n = s1.cnt n - 1 := DL.fset_same
  walk_at "dl"
  refine fldOf put_same th_count ?_
  walk_at "dl"
  rcases hend with ⟨hne, rfl⟩ | ⟨hz, rfl⟩
  · rw [ed] at hne
    rw [decide_eq_false hne]
    walk_at "dl"
    exact hq H1 _ T5
  · rw [ed] at hz
    rw [decide_eq_true hz]
    have hh := hrep_hall T5.rep
    rw [eh] at hh
    walk_at "dl"
    refine needOf (methOf (x := .non) hh rfl) ?_
    walk_at "dl"
    have hth1 := KA.stay ha hth
    have W5 := W3.down n
    refine ⟨H1, s1.down n, n, by rw [eh, et], T5.rep, W5, hth1, fun S6 T6 => ?_⟩
    have hh6 := hrep_hall T6.rep
    rw [eh] at hh6
    walk_at "dl"
    refine needOf (methOf (x := .non) hh6 rfl) ?_
    walk_at "dl"
    refine ⟨H1, _, n, by rw [eh, et], T6.rep, W5.gone hth1, h1, Nat.le_trans h2 m1, ?_, fun S7 T7 => hq H1 S7 (T5.trans (T6.trans (T7.trans (HTr.ghost T7.rep rfl rfl))))⟩
    show s1.row ≠ none
    rw [KA.row ha]
    exact hr
def dWork (CT CH : Addr) (en : D) (ask : AskR) : SpD := fun ds S k _ => ∃ (H : HA) (s : Hs) (f : Nat) (s' : Hs), ds = [.ref (H.a .hall)] ∧ HRep CT CH en H s S ∧ Wf s ∧ Work ask f s s' ∧ ∀ H' S', HTr CT CH en H s S H' s' S' → k .non S'
theorem Turn.row {ask : AskR} (KA : AskOk ask) {s s' : Hs} {n : Nat} (t : Turn ask s n s') (h : s.row ≠ none) : s'.row ≠ none := by
  cases t with
  | pass _ => exact h
  | stay h1 h2 h3 =>
    intro z
    have := KA.row h2
    exact h (by rw [← show _ = s.row from this]; exact z)
  | go h1 h2 h3 =>
    intro z
    have := KA.row h2
    have z2 := (emptied_row _ _).mp z
    exact h (by rw [← show _ = s.row from this]; exact z2)
theorem ok_work {L : Nat} {ask : AskR} (KA : AskOk ask) {fa : Addr} {fd : FuncData} (F : Fun K "work" "Hall.work" s_Hall_work fa fd) (T : Txt K mg CT CH) (G_Hall_turn : MDef P w K mg base L CH "turn" ["self", "thing"] (lSp K (dTurn CT CH en ask))) :
    FnOk P w K mg base CX0 (L + 1) fa fd ["self"] (lSp K (dWork CT CH en ask)) := by
  refine dok F sc_Hall_work (fun ds S q qx ⟨H, s, f, s', e, _⟩ => by rw [e]; rfl) ⟨_, fun cdv A outer s H E hr => dss_cons (ds_while PassesOwn.never (dt_cmp op_gt si_gt (de_callB call_len (si_len rfl) (by rfl) T.len (by decide +kernel) (da_cons (de_fld T.Hall_ (by decide +kernel) (de_var 0)) da_nil)) (de_int) (nomark _))
        (dss_one (ds_expr (de_meth T.Hall_ G_Hall_turn (hr.mono (by omega)) (de_var 0) (da_cons (de_ml PySem.F.slot_list_pop PySem.F.type_list_pop mt_popAt si_pop0 (de_fld T.Hall_ (by decide +kernel) (de_var 0)) (da_cons (de_int) da_nil)) da_nil)))))
      (dss_one (ds_fld T.Hall_ (by decide +kernel) (de_var 0) (de_non))), fun ds S q qx ⟨H, s, f, s', hd, R, W, hw, hq⟩ => ?_⟩
  subst hd
  walk_at "dl"
  refine whlOf (fun f δ S' => ∃ H' si, δ = [some (.ref (H.a .hall))] ∧ HTr CT CH en H s S H' si S' ∧ Wf si ∧ Work ask f si s') f ⟨H, s, rfl, HTr.refl R, W, hw⟩ ?_
  rintro f δ S' ⟨H', si, rfl, T1, W1, hw⟩
  have hh := hrep_hall T1.rep
  rw [T1.hall] at hh
  cases hw with
  | done h =>
    have hrow := hrep_row T1.rep h
    rw [h] at hh
    walk_at "dl"
    refine fldOf hh ha_row ?_
    simp only [rowD]
    walk_at "dl"
    refine lenRf hrow ?_
    walk_at "dl"
    rw [show decide ((0 : Int) < ((0 : Nat) : Int)) = false from rfl]
    walk_at "dl"
    refine fldsOf hh (Nat.le_of_ble_eq_true rfl) ?_
    rw [ha_row']
    have T2 := HTr.noRow T1.rep
    rw [T1.hall] at T2
    walk_at "dl"
    exact hq H' _ (T1.trans T2)
  | @step f n r _ s1 _ h1 h2 h3 =>
    have hrow := hrep_row T1.rep h1
    rw [h1] at hh
    walk_at "dl"
    refine fldOf hh ha_row ?_
    simp only [rowD]
    walk_at "dl"
    refine lenRf hrow ?_
    walk_at "dl"
    rw [show decide ((0 : Int) < (((r.map fun n => D.ref (H'.a (.t n))).length + 1 : Nat) : Int)) = true from decide_eq_true (by omega)]
    walk_at "dl"
    refine needOf (methOf (x := .non) hh rfl) ?_
    walk_at "dl"
    refine fldOf hh ha_row ?_
    simp only [rowD]
    walk_at "dl"
    refine needOf (isLOf hrow) ?_
    walk_at "dl"
    refine pop0Of hrow ?_
    have T2 := HTr.setRow T1.rep h1 r
    obtain ⟨w1, w2, w3⟩ := W1.rowTail h1
    have hb := W1.win n w3
    walk_at "dl"
    refine ⟨H', _, n, s1, by rw [T1.hall], T2.rep, w1, hb.1, hb.2, nofun, fun l hl => (by cases hl; exact w2), h2, fun H2 S2 T3 => ⟨f, Nat.lt_succ_self f, H2, s1, rfl, (T1.trans T2).trans T3, (Turn.wf KA h2 w1 fun l hl => (by cases hl; exact w2)).1, h3⟩⟩
/-- a thing whose last hold is loosed -/
def dLetGo (CT CH : Addr) (en : D) (ask : AskR) : SpD := fun ds S k _ => ∃ (H : HA) (s : Hs) (n : Nat) (s' : Hs), ds = [.ref (H.a .hall), .ref (H.a (.t n))] ∧ HRep CT CH en H s S ∧ Wf s ∧ 1 ≤ n ∧ n ≤ s.many ∧ s.cnt n = 0 ∧
  ((s.enqs n = false ∧ s' = s) ∨ (s.enqs n = true ∧ s.row ≠ none ∧ s' = s.enq n) ∨ (s.enqs n = true ∧ s.row = none ∧ ∃ f, Work ask f { s.enq n with row := some [n] } s')) ∧ ∀ H' S', HTr CT CH en H s S H' s' S' → k .non S'
theorem ok_let_go {L : Nat} {ask : AskR} (KA : AskOk ask) {fa : Addr} {fd : FuncData} (F : Fun K "let_go" "Hall.let_go" s_Hall_let_go fa fd) (T : Txt K mg CT CH) (G_Hall_work : MDef P w K mg base L CH "work" ["self"] (lSp K (dWork CT CH en ask))) : FnOk P w K mg base CX0 (L + 1) fa fd ["self", "thing"] (lSp K (dLetGo CT CH en ask)) := by
  refine dok F sc_Hall_let_go (fun ds S q qx ⟨H, s, n, s', e, _⟩ => by rw [e]; rfl) ⟨_, fun cdv A outer s H E hr => dss_cons (ds_if (PW.pt (dw_or (dt_val (de_fld T.Thing_ (by decide +kernel) (de_var 1))) (dw_or1 (dt_dinN (hu_of hr) (de_fld T.Thing_ (by decide +kernel) (de_var 1)) (de_fld T.Hall_ (by decide +kernel) (de_var 0))))))
        (dss_one (ds_retN))
        (dss_nil))
      (dss_cons (ds_fld T.Thing_ (by decide +kernel) (de_var 1) (de_bl))
      (dss_one (ds_if (dt_cmp op_isN si_isN (de_fld T.Hall_ (by decide +kernel) (de_var 0)) (de_non) (nomark _))
        (dss_cons (ds_fld T.Hall_ (by decide +kernel) (de_var 0) (de_new (da_cons (de_var 1) da_nil)))
        (dss_one (ds_expr (de_meth0 T.Hall_ G_Hall_work (hr.mono (by omega)) (de_var 0)))))
        (dss_one (ds_expr (de_ml PySem.F.slot_list_append PySem.F.type_list_append mt_append si_app (de_fld T.Hall_ (by decide +kernel) (de_var 0)) (da_cons (de_var 1) da_nil))))))), fun ds S q qx ⟨H, s, n, s', hd, R, W, h1, h2, hc, ht, hq⟩ => ?_⟩
  subst hd
  have e := hrep_t R h1 h2
  walk_at "dl"
  refine fldOf e th_waits ?_
  by_cases hw : n ∈ s.waits
  · rw [decide_eq_true hw]
    have hf : s.enqs n = false := by unfold Hs.enqs; simp [hw]
    walk_at "dl"
    rcases ht with ⟨_, rfl⟩ | ⟨h, _⟩ | ⟨h, _⟩
    · exact hq H _ (HTr.refl R)
    · rw [hf] at h; cases h
    · rw [hf] at h; cases h
  rw [decide_eq_false hw]
  walk_at "dl"
  refine fldOf e th_number ?_
  walk_at "dl"
  refine fldOf (hrep_hall R) ha_there ?_
  walk_at "dl"
  refine dninOf (hrep_th R) rfl ?_
  rw [there_some]
  by_cases hth : n ∈ s.there
  rotate_left
  · rw [decide_eq_false hth]
    have hf : s.enqs n = false := by unfold Hs.enqs; simp [hth]
    walk_at "dl"
    rcases ht with ⟨_, rfl⟩ | ⟨h, _⟩ | ⟨h, _⟩
    · exact hq H _ (HTr.refl R)
    · rw [hf] at h; cases h
    · rw [hf] at h; cases h
  rw [decide_eq_true hth]
  have hf : s.enqs n = true := by unfold Hs.enqs; simp [hth, hw, hc]
  walk_at "dl"
  refine fldsOf e (Nat.le_of_ble_eq_true rfl) ?_
  rw [th_waits']
  have T1 := HTr.wait R h1 h2 (s.waits ++ [n]) fun i hi => by simp [hi]
  rw [decide_eq_true (show n ∈ s.waits ++ [n] by simp)] at T1
  have hh := hrep_hall T1.rep
  dsimp only at hh
  rcases ht with ⟨h, _⟩ | ⟨_, hr, rfl⟩ | ⟨_, hr, f, hwk⟩
  · rw [hf] at h; cases h
  · obtain ⟨l, hl⟩ : ∃ l, s.row = some l := Option.ne_none_iff_exists'.mp hr
    rw [hl] at hh
    walk_at "dl"
    refine fldOf hh ha_row ?_
    simp only [rowD]
    walk_at "dl"
    refine fldOf hh ha_row ?_
    simp only [rowD]
    walk_at "dl"
    have hrow := hrep_row T1.rep (l := l) hl
    refine needOf (isLOf hrow) ?_
    walk_at "dl"
    refine appOf hrow (by rw [List.length_map]; have := row_len W hl; omega) ?_
    have T2 := HTr.setRow T1.rep (l0 := l) hl (l ++ [n])
    rw [List.map_append] at T2
    refine hq H _ (T1.trans ?_)
    have : s.enq n = { s with waits := s.waits ++ [n], row := some (l ++ [n]) } := by unfold Hs.enq; rw [hl]; rfl
    rw [this]
    exact T2
  · rw [hr] at hh
    walk_at "dl"
    refine fldOf hh ha_row ?_
    simp only [rowD]
    walk_at "dl"
    refine freshOf fun p hp => ?_
    have np : H.a .hall ≠ p := sto_ne hh hp
    walk_at "dl"
    refine fldsOf (by rw [put_ne np]; exact hh) (Nat.le_of_ble_eq_true rfl) ?_
    rw [ha_row']
    have T2 := HTr.begun T1.rep hr hp [n]
    walk_at "dl"
    have hh2 := hrep_hall T2.rep
    rw [T2.hall] at hh2
    refine needOf (methOf (x := .non) hh2 rfl) ?_
    walk_at "dl"
    have W1 := W.enq hf
    exact ⟨_, _, f, s', by rw [T2.hall], T2.rep, ⟨W1.nd, W1.tin, W1.len, W1.most, W1.key, W1.plen, W1.pv, W1.wnd, W1.win, fun l hl => by
      cases hl
      exact ⟨by simp, fun i hi => by rw [List.mem_singleton.mp hi]; exact List.mem_append_right _ (List.mem_singleton.mpr rfl)⟩, W1.pz, W1.az, W1.kok⟩, hwk, fun H' S' T3 => hq H' S' ((T1.trans T2).trans T3)⟩
def dLoose (CT CH : Addr) (en : D) (ask : AskR) : SpD := fun ds S k _ => ∃ (H : HA) (s : Hs) (v : Vl) (s' : Hs), ds = [.ref (H.a .hall), vD H v] ∧ HRep CT CH en H s S ∧ Wf s ∧ VOk s.many v ∧ Loose ask s v s' ∧ ∀ H' S', HTr CT CH en H s S H' s' S' → k .non S'
theorem ok_loose {L : Nat} {ask : AskR} {fa : Addr} {fd : FuncData} (F : Fun K "loose" "Hall.loose" s_Hall_loose fa fd) (T : Txt K mg CT CH) (G_Hall_let_go : MDef P w K mg base L CH "let_go" ["self", "thing"] (lSp K (dLetGo CT CH en ask))) : FnOk P w K mg base CX0 (L + 1) fa fd ["self", "value"] (lSp K (dLoose CT CH en ask)) := by
  refine dok F sc_Hall_loose (fun ds S q qx ⟨H, s, v, s', e, _⟩ => by rw [e]; rfl) ⟨_, fun cdv A outer s H E hr => dss_one (ds_if (dt_val (de_callB (clIsi' (K := K)) (si_isiC T.ThingI) (by rfl) T.isinstance (by decide +kernel) (da_cons (de_var 1) (da_cons (de_gl (by rfl) T.Thing) da_nil))))
        (dss_cons (ds_fldaug T.Thing_ (by decide +kernel) (de_var 1) (de_int) in_sub)
        (dss_one (ds_if (dt_cmp op_eq si_eq (de_fld T.Thing_ (by decide +kernel) (de_var 1)) (de_int) (nomark _))
          (dss_one (ds_expr (de_meth T.Hall_ G_Hall_let_go (hr.mono (by omega)) (de_var 0) (da_cons (de_var 1) da_nil))))
          (dss_nil))))
        (dss_nil)), fun ds S q qx ⟨H, s, v, s', hd, R, W, hv, ht, hq⟩ => ?_⟩
  subst hd
  cases v with
  | no d =>
    have hn : NoTh d := hv
    cases ht
    walk_at "dl"
    cases hn <;> (simp only [vD]; walk_at "dl"; exact hq H _ (HTr.refl R))
  | th n =>
    have e := hrep_t R hv.1 hv.2
    walk_at "dl"
    simp only [vD]
    rw [x_own e]
    walk_at "dl"
    refine fldOf e th_count ?_
    walk_at "dl"
    refine fldsOf e (Nat.le_of_ble_eq_true rfl) ?_
    rw [th_count']
    have T1 : HTr CT CH en H s S H (s.dec n) _ := HTr.cnt R hv.1 hv.2 (s.cnt n - 1)
    walk_at "dl"
    refine fldOf put_same th_count ?_
    walk_at "dl"
    have ed : (s.dec n).cnt n = s.cnt n - 1 := DL.fset_same
    by_cases z : s.cnt n - 1 = 0
    · rw [decide_eq_true z]
      walk_at "dl"
      refine needOf (methOf (x := .non) (hrep_hall T1.rep) rfl) ?_
      walk_at "dl"
      refine ⟨H, s.dec n, n, s', rfl, T1.rep, W.dec n, hv.1, hv.2, by rw [ed]; exact z, ?_, fun H' S' T2 => hq H' S' (T1.trans T2)⟩
      cases ht with
      | kept h => exact .inl ⟨h, rfl⟩
      | wait h h' => exact .inr (.inl ⟨h, h', rfl⟩)
      | work h h' hw => exact .inr (.inr ⟨h, h', _, hw⟩)
    · rw [decide_eq_false z]
      have hf : (s.dec n).enqs n = false := by unfold Hs.enqs; rw [ed]; simp [z]
      walk_at "dl"
      cases ht with
      | kept h => exact hq H _ T1
      | wait h h' => rw [hf] at h; cases h
      | work h h' hw => rw [hf] at h; cases h
end
end K

set_option Elab.async false
set_option linter.all false
set_option maxRecDepth 100000
namespace K
open PySem L2 Evl EX DL HM
section
variable {P : Program} {w : World} {K : PySem.W.Frag} {mg : Str → Option Value} {base : Heap} {CT CH : Addr} {en : D}
local macro_rules | `(tactic| walk_at "dl") => `(tactic| try simp only [↓x_forS, ↓x_diSL, ↓x_diKeys, ↓x_lock, ↓x_dictP, ↓x_fld, ↓x_fldS, ↓x_fldA, ↓x_meth, ↓x_make, ↓x_dget, ↓x_din, ↓x_dget1, ↓x_dget2, ↓x_dpop, ↓x_dput, ↓x_listD, ↓x_sortDI, ↓x_lenD, ↓x_isiC, x_icS, x_icI, x_icB, x_icN, x_ioS, x_ioI, x_ioB, x_ioN, ↓x_gSub, ↓x_sortDL, ↓x_eqO, ↓x_ninA, x_catN, x_isBB, x_isBN, x_isBI, x_isBS, x_isBR, ↓x_seq, ↓x_nx, ↓x_pass, ↓x_brk, ↓x_cnt, ↓x_drop, ↓x_ret, ↓x_retN, ↓x_ifS, ↓x_set, ↓x_asg, ↓x_gN, ↓x_gT, ↓x_gsC, ↓x_gsN, ↓x_var, x_rdv, ↓x_c, ↓x_op, ↓x_test, x_tst, ↓x_and, ↓x_or, ↓x_not, ↓x_andV, ↓x_orV, ↓x_notV, x_tstV, ↓x_ifE, x_true, x_false, ↓x_nil, ↓x_cons, ↓x_tup, ↓x_lst, ↓x_new, ↓x_newD, ↓x_call, ↓x_cb, x_oI, x_oIc, x_oS, x_addS, x_isN, x_notN, x_eqI, x_eqS, x_eqIS, x_eqSI, x_eqNS, x_neI, x_neS, x_neB, x_eqB, x_few, x_need, ↓x_ix, x_lenS, x_ixL0, x_ixT0, x_ixT1, x_ixT2, x_ixT3, x_ixT4, x_lenL, x_lenT, x_lenC, x_listL, x_listT, x_tupL, x_tupT, x_strI, x_strS, x_int1, x_intB, x_I1, x_I2, x_cat, x_catT, ↓x_split, ↓x_for, ↓x_cut, ↓x_lc, ↓x_whl, ↓x_diL, ↓x_diT, ↓x_diS, x_itL, x_itC, x_itT, x_itS, ↓x_diR1, ↓x_diR2, ↓x_diE, x_enmL, x_enmC, ↓x_gcN, ↓x_gcT, ↓x_yes, ↓x_ml, ↓x_ms, x_strq, x_ss, x_ssc, x_ssi, ↓x_join, ↓x_aug, x_st2I, ↓x_sl, ↓x_noP, ↓x_part, x_intq, x_slL, x_slC, x_slS, ↓x_in, x_inT, x_inL, x_ninT, x_ninL, x_inN, x_inSS, x_inSI, x_inIS, x_inII, ↓x_sg, x_sgS, x_nsgS, ↓x_eqD, ↓x_inDD, x_mulS, ↓x_isi, x_isiS, x_isiI, x_isiB, x_isiN, x_isiL, x_isiT, ↓x_isTT, x_itI, x_itStr, x_itN, x_itB, x_itLst, x_itTup, ↓x_any, ↓x_all, ↓x_sum, ↓x_srtI, ↓x_srtS, ↓x_intS, ↓x_lenRf, ↓x_tupRf, ↓x_frz', x_flS, x_flI, x_flN, x_flB, x_cs_bool, x_isB_NoneType_bool, x_isB_bool_bool, x_isB_int_bool, x_isB_str_bool, x_isB_list_bool, x_isB_tuple_bool, x_isB_dict_bool, x_cs_int, x_isB_NoneType_int, x_isB_bool_int, x_isB_int_int, x_isB_str_int, x_isB_list_int, x_isB_tuple_int, x_isB_dict_int, x_cs_str, x_isB_NoneType_str, x_isB_bool_str, x_isB_int_str, x_isB_str_str, x_isB_list_str, x_isB_tuple_str, x_isB_dict_str, x_cs_list, x_isB_NoneType_list, x_isB_bool_list, x_isB_int_list, x_isB_str_list, x_isB_list_list, x_isB_tuple_list, x_isB_dict_list, x_cs_tuple, x_isB_NoneType_tuple, x_isB_bool_tuple, x_isB_int_tuple, x_isB_str_tuple, x_isB_list_tuple, x_isB_tuple_tuple, x_isB_dict_tuple, x_cs_dict, x_isB_NoneType_dict, x_isB_bool_dict, x_isB_int_dict, x_isB_str_dict, x_isB_list_dict, x_isB_tuple_dict, x_isB_dict_dict, List.all_cons, List.all_nil, Bool.and_self, Bool.or_false, Bool.or_true, Bool.false_or, Bool.true_or, wipeD, setD, DL.isNon, List.set_cons_zero, List.set_cons_succ, List.getElem?_cons_zero, List.getElem?_cons_succ, List.length_cons, List.length_nil, Nat.zero_add, List.cons_append, List.nil_append, decide_true, decide_false, Bool.not_true, Bool.not_false, true_and, and_true, startD, List.map_cons, List.map_nil, Nat.reduceSub, Nat.reduceLeDiff, Nat.zero_le, Int.reduceLT, Int.reduceLE, and_self, Nat.reduceAdd, List.replicate])
def dMake (CT CH : Addr) (en : D) : SpD := fun ds S k _ => ∃ (H : HA) (s : Hs) (form : Str) (own : D), ds = [.ref (H.a .hall), .str form, own] ∧ HRep CT CH en H s S ∧ Wf s ∧ ∀ H' S', HTr CT CH en H s S H' (s.made (.str form) own) S' → k (.ref (H'.a (.t (s.many + 1)))) S'
theorem there_new {H : HA} {s : Hs} (W : Wf s) : gval (s.there.map fun n : Nat => ((.inl (n : Int), .ref (H.a (.t n))) : Key × D)) (.inl ((s.many : Int) + 1)) = none := by
  unfold gval
  rw [Option.map_eq_none_iff, List.find?_eq_none]
  intro x hx
  obtain ⟨n, hn, rfl⟩ := List.mem_map.mp hx
  have := W.tin n hn
  rw [decide_eq_true_iff]
  intro z
  have := Sum.inl.inj z
  omega
theorem ok_make {fa : Addr} {fd : FuncData} (F : Fun K "make" "Hall.make" s_Hall_make fa fd) (T : Txt K mg CT CH) (G_mk_Thing : MkDef P w K mg base 1 "Thing" CT ["self", "form", "number", "own"] (lSp K (dThInit CT))) :
    FnOk P w K mg base CX0 3 fa fd ["self", "form", "own"] (lSp K (dMake CT CH en)) := by
  refine dok F sc_Hall_make (fun ds S q qx ⟨H, s, form, own, e, _⟩ => by rw [e]; rfl) ⟨_, fun cdv A outer s H E hr => dss_cons (ds_fldaug T.Hall_ (by decide +kernel) (de_var 0) (de_int) in_add)
      (dss_cons (ds_set (i := 3) sc_Hall_make.nd rfl (Or.inl rfl) (de_make G_mk_Thing (hr.mono (by decide)) (by rfl) (da_cons (de_var 1) (da_cons (de_fld T.Hall_ (by decide +kernel) (de_var 0)) (da_cons (de_var 2) da_nil)))))
      (dss_cons (ds_dput (hu_of hr) (de_fld T.Hall_ (by decide +kernel) (de_var 0)) (de_fld T.Thing_ (by decide +kernel) (de_var 3)) (de_var 3))
      (dss_one (ds_ret (de_var 3))))), fun ds S q qx ⟨H, s, form, own, hd, R, W, hq⟩ => ?_⟩
  subst hd
  have hh := hrep_hall R
  have ht := hrep_th R
  have nht : H.a .hall ≠ H.a .th := R.ne nofun nofun nofun
  walk_at "dl"
  refine fldOf hh ha_many ?_
  walk_at "dl"
  refine fldsOf hh (Nat.le_of_ble_eq_true rfl) ?_
  rw [ha_many']
  walk_at "dl"
  refine fldOf put_same ha_many ?_
  walk_at "dl"
  refine freshOf fun t n1 dt => ?_
  have nth : H.a .hall ≠ t := sto_ne put_same n1
  rw [put_ne nth.symm] at n1
  refine ⟨t, dt, form, (s.many : Int) + 1, own, rfl, put_same, fun pd n2 => ⟨rfl, ?_⟩⟩
  have ntp : t ≠ pd := sto_ne put_same n2
  rw [put_ne ntp.symm] at n2
  have nhp : H.a .hall ≠ pd := sto_ne put_same n2
  rw [put_ne nhp.symm] at n2
  have e1 : H.a .th ≠ t := sto_ne ht n1
  have e2 : H.a .th ≠ pd := sto_ne ht n2
  walk_at "dl"
  refine fldOf (by rw [put_ne nth, put_ne nhp, put_ne nth]; exact put_same) ha_there ?_
  walk_at "dl"
  refine fldOf put_same th_number ?_
  walk_at "dl"
  refine dputOf (kvs := s.there.map fun n : Nat => ((.inl (n : Int), .ref (H.a (.t n))) : Key × D)) (by rw [put_ne e1, put_ne e2, put_ne e1, put_ne nht.symm]; exact ht) rfl (by rw [List.length_map]; have := W.len; have := W.most; omega) ?_
  rw [gput_new (there_new W)]
  walk_at "dl"
  have key : ∀ S' : Sto, S' t = some (.ins CT dt (thFs (.str form) (.int ((s.many : Int) + 1)) (.int 0) (.ref pd) own (.bl false) (.bl false))) → S' pd = some (.dct []) → S' (H.a .hall) = some (.ins CH H.dx (haFs en (.int ((s.many : Int) + 1)) (.ref (H.a .th)) (.ref (H.a .lf)) (rowD H s.row) (.int (s.lasts : Int)))) →
      S' (H.a .th) = some (.dct (s.there.map (fun n : Nat => ((.inl (n : Int), .ref (H.a (.t n))) : Key × D)) ++ [((.inl ((s.many : Int) + 1) : Key), .ref t)])) → (∀ b, b ≠ t → b ≠ pd → b ≠ H.a .hall → b ≠ H.a .th → S' b = S b) → q (.ref t) S' := fun S' g1 g2 g3 g4 g5 => by
    have T1 := HTr.make (form := .str form) (own := own) R W (t := t) (pd := pd) (dt := dt) (W.pz _ (Nat.lt_succ_self _)) (fun z => by have := W.win _ z; omega) (fun z => by have := W.az _ z; omega) n1 n2 ntp g1 g2 g3 g4 g5
    have := hq _ _ T1
    rw [show (({ H with a := fun x => if x = HL.t (s.many + 1) then t else if x = .pd (s.many + 1) then pd else H.a x, dt := DL.fset H.dt (s.many + 1) dt } : HA).a (.t (s.many + 1))) = t from if_pos rfl] at this
    exact this
  refine key _ ?_ ?_ ?_ put_same fun b b1 b2 b3 b4 => ?_
  · rw [put_ne e1.symm]; exact put_same
  · rw [put_ne e2.symm, put_ne ntp.symm]; exact put_same
  · rw [put_ne nht, put_ne nth, put_ne nhp, put_ne nth]; exact put_same
  · rw [put_ne b4, put_ne b1, put_ne b2, put_ne b1, put_ne b3]
theorem gval_vD {H : HA} {l : List (Key × Vl)} {k : Key} : gval (l.map fun kv => ((kv.1, vD H kv.2) : Key × D)) k = (gval l k).map (vD H) := by
  induction l with
  | nil => rfl
  | cons kv l ih =>
    unfold gval at ih ⊢
    rw [List.map_cons, List.find?_cons, List.find?_cons]
    by_cases z : kv.1 = k
    · simp only [z, decide_true]
      rfl
    · simp only [z, decide_false]
      exact ih
theorem gput_vD {H : HA} {l : List (Key × Vl)} {k : Key} {v : Vl} : gput (l.map fun kv => ((kv.1, vD H kv.2) : Key × D)) k (vD H v) = (gput l k v).map fun kv => ((kv.1, vD H kv.2) : Key × D) := by
  unfold gput
  have : ((l.map fun kv => ((kv.1, vD H kv.2) : Key × D)).any fun kv => decide (kv.1 = k)) = l.any fun kv => decide (kv.1 = k) := by rw [List.any_map]; rfl
  rw [this]
  split
  · rw [List.map_map, List.map_map]
    refine List.map_congr_left fun kv _ => ?_
    show (if kv.1 = k then (kv.1, vD H v) else (kv.1, vD H kv.2)) = ((if kv.1 = k then (kv.1, v) else kv).1, vD H (if kv.1 = k then (kv.1, v) else kv).2)
    split <;> rfl
  · rw [List.map_append]
    rfl
theorem gdrop_vD {H : HA} {l : List (Key × Vl)} {k : Key} : gdrop (l.map fun kv => ((kv.1, vD H kv.2) : Key × D)) k = (gdrop l k).map fun kv => ((kv.1, vD H kv.2) : Key × D) := by
  unfold gdrop
  rw [List.filter_map]
  rfl
def dPut (CT CH : Addr) (en : D) (ask : AskR) : SpD := fun ds S k _ => ∃ (H : HA) (s : Hs) (n : Nat) (key : D) (ky : Key) (v : Vl) (s' : Hs), ds = [.ref (H.a .hall), .ref (H.a (.t n)), key, vD H v] ∧ HRep CT CH en H s S ∧ Wf s ∧ 1 ≤ n ∧ n ≤ s.many ∧ keyD key = some ky ∧ (dK ky).any = true ∧ VOk s.many v ∧ (s.parts n).length < 90000 ∧
  Loose ask (s.putP n ky v) (oldP s n ky) s' ∧ ∀ H' S', HTr CT CH en H s S H' s' S' → k .non S'
theorem ok_put {L : Nat} {ask : AskR} (hL : 1 ≤ L) {fa : Addr} {fd : FuncData} (F : Fun K "put" "Hall.put" s_Hall_put fa fd) (T : Txt K mg CT CH) (G_Hall_hold : MDef P w K mg base 1 CH "hold" ["self", "value"] (lSp K (dHold CT CH en))) (G_Hall_loose : MDef P w K mg base L CH "loose" ["self", "value"] (lSp K (dLoose CT CH en ask))) :
    FnOk P w K mg base CX0 (L + 1) fa fd ["self", "thing", "key", "value"] (lSp K (dPut CT CH en ask)) := by
  refine dok F sc_Hall_put (fun ds S q qx ⟨H, s, n, key, ky, v, s', e, _⟩ => by rw [e]; rfl) ⟨_, fun cdv A outer s H E hr => dss_cons (ds_set (i := 4) sc_Hall_put.nd rfl (Or.inl rfl) (de_dgets1 (hu_of hr) (de_fld T.Thing_ (by decide +kernel) (de_var 1)) (de_var 2)))
      (dss_cons (ds_expr (de_meth T.Hall_ G_Hall_hold (hr.mono (by omega)) (de_var 0) (da_cons (de_var 3) da_nil)))
      (dss_cons (ds_dput (hu_of hr) (de_fld T.Thing_ (by decide +kernel) (de_var 1)) (de_var 2) (de_var 3))
      (dss_one (ds_expr (de_meth T.Hall_ G_Hall_loose (hr.mono (by omega)) (de_var 0) (da_cons (de_var 4) da_nil)))))), fun ds S q qx ⟨H, s, n, key, ky, v, s', hd, R, W, h1, h2, hk, hka, hv, hl, ht, hq⟩ => ?_⟩
  subst hd
  have hp := hrep_pd R h1 h2
  walk_at "dl"
  refine fldOf (hrep_t R h1 h2) th_parts (isDOf hp ?_)
  walk_at "dl"
  refine dgorOf hp hk ?_
  have eo : (gval ((s.parts n).map fun kv => ((kv.1, vD H kv.2) : Key × D)) ky).getD .non = vD H (oldP s n ky) := by
    rw [gval_vD]
    unfold oldP
    cases gval (s.parts n) ky <;> rfl
  rw [eo]
  walk_at "dl"
  refine needOf (methOf (x := .non) (hrep_hall R) rfl) ?_
  walk_at "dl"
  refine ⟨H, s, v, rfl, R, hv, fun S1 T1 => ?_⟩
  have h2' : n ≤ (s.held v).many := by rw [held_many]; exact h2
  have hp1 := hrep_pd T1.rep h1 h2'
  rw [held_parts] at hp1
  walk_at "dl"
  refine fldOf (hrep_t T1.rep h1 h2') th_parts ?_
  walk_at "dl"
  refine dputOf hp1 hk (by rw [List.length_map]; omega) ?_
  rw [gput_vD]
  have T2 := HTr.parts T1.rep h1 h2' (gput (s.parts n) ky v)
  rw [held_parts] at T2
  have T2' : HTr CT CH en H s S H (s.putP n ky v) _ := T1.trans T2
  have W2 := W.putP (k := ky) h2 hv hka hl
  walk_at "dl"
  refine needOf (methOf (x := .non) (hrep_hall T2'.rep) rfl) ?_
  walk_at "dl"
  refine ⟨H, s.putP n ky v, oldP s n ky, s', rfl, T2'.rep, W2, ?_, ht, fun H' S' T3 => hq H' S' (T2'.trans T3)⟩
  have := oldP_ok W n ky
  show VOk (s.held v).many _
  rw [held_many]
  exact this
def dTake (CT CH : Addr) (en : D) (ask : AskR) : SpD := fun ds S k _ => ∃ (H : HA) (s : Hs) (n : Nat) (key : D) (ky : Key) (v : Vl) (s' : Hs), ds = [.ref (H.a .hall), .ref (H.a (.t n)), key] ∧ HRep CT CH en H s S ∧ Wf s ∧ 1 ≤ n ∧ n ≤ s.many ∧ keyD key = some ky ∧ gval (s.parts n) ky = some v ∧
  Loose ask (s.dropP n ky) v s' ∧ ∀ H' S', HTr CT CH en H s S H' s' S' → k .non S'
theorem ok_take {L : Nat} {ask : AskR} {fa : Addr} {fd : FuncData} (F : Fun K "take" "Hall.take" s_Hall_take fa fd) (T : Txt K mg CT CH) (G_Hall_loose : MDef P w K mg base L CH "loose" ["self", "value"] (lSp K (dLoose CT CH en ask))) :
    FnOk P w K mg base CX0 (L + 1) fa fd ["self", "thing", "key"] (lSp K (dTake CT CH en ask)) := by
  refine dok F sc_Hall_take (fun ds S q qx ⟨H, s, n, key, ky, v, s', e, _⟩ => by rw [e]; rfl) ⟨_, fun cdv A outer s H E hr => dss_one (ds_expr (de_meth T.Hall_ G_Hall_loose (hr.mono (by omega)) (de_var 0) (da_cons (de_dpop (de_fld T.Thing_ (by decide +kernel) (de_var 1)) (de_var 2)) da_nil))), fun ds S q qx ⟨H, s, n, key, ky, v, s', hd, R, W, h1, h2, hk, hv, ht, hq⟩ => ?_⟩
  subst hd
  have hp := hrep_pd R h1 h2
  walk_at "dl"
  refine needOf (methOf (x := .non) (hrep_hall R) rfl) ?_
  walk_at "dl"
  refine fldOf (hrep_t R h1 h2) th_parts (isDOf hp ?_)
  walk_at "dl"
  refine dpopOf hp hk (v := vD H v) (by rw [gval_vD, hv]; rfl) ?_
  rw [gdrop_vD]
  have T1 : HTr CT CH en H s S H (s.dropP n ky) _ := HTr.parts R h1 h2 (gdrop (s.parts n) ky)
  walk_at "dl"
  refine ⟨H, s.dropP n ky, v, s', rfl, T1.rep, W.dropP h2, ?_, ht, fun H' S' T2 => hq H' S' (T1.trans T2)⟩
  have := oldP_ok W n ky
  unfold oldP at this
  rw [hv] at this
  exact this
def dThings (CT CH : Addr) (en : D) : SpD := fun ds S k _ => ∃ (H : HA) (s : Hs), ds = [.ref (H.a .hall)] ∧ HRep CT CH en H s S ∧ Wf s ∧ ∀ ys : List Int, ys.Perm (s.there.map fun n : Nat => (n : Int)) → ys.Pairwise (· ≤ ·) → k (.list (ys.map D.int)) S
theorem ok_things {fa : Addr} {fd : FuncData} (F : Fun K "things" "Hall.things" s_Hall_things fa fd) (T : Txt K mg CT CH) : FnOk P w K mg base CX0 1 fa fd ["self"] (lSp K (dThings CT CH en)) := by
  refine dok F sc_Hall_things (fun ds S q qx ⟨H, s, z, _⟩ => by rw [z]; rfl) ⟨_, fun cdv A outer s H E hr => dss_one (ds_ret (de_callB (SD.call_sortedDL rfl) si_sortDL (by rfl) T.sorted (by decide +kernel) (da_cons (de_fld T.Hall_ (by decide +kernel) (de_var 0)) da_nil))), fun ds S q qx ⟨H, s, hd, R, W, hq⟩ => ?_⟩
  subst hd
  walk_at "dl"
  refine fldOf (hrep_hall R) ha_there ?_
  walk_at "dl"
  exact ⟨_, s.there.map fun n : Nat => (n : Int), hrep_th R, by rw [List.map_map, List.map_map]; rfl, by rw [List.length_map]; have := W.len; have := W.most; omega, hq⟩
def dGone (CT CH : Addr) (en : D) : SpD := fun ds S k _ => ∃ (H : HA) (s : Hs), ds = [.ref (H.a .hall)] ∧ HRep CT CH en H s S ∧ k (.list (s.left.map fun n : Nat => .int (n : Int))) S
theorem ok_gone {fa : Addr} {fd : FuncData} (F : Fun K "gone" "Hall.gone" s_Hall_gone fa fd) (T : Txt K mg CT CH) : FnOk P w K mg base CX0 1 fa fd ["self"] (lSp K (dGone CT CH en)) := by
  refine dok F sc_Hall_gone (fun ds S q qx ⟨H, s, z, _⟩ => by rw [z]; rfl) ⟨_, fun cdv A outer s H E hr => dss_one (ds_ret (de_callTy (clList (K := K)) si_list (by rfl) T.list (by decide +kernel) (da_cons (de_fld T.Hall_ (by decide +kernel) (de_var 0)) da_nil))), fun ds S q qx ⟨H, s, hd, R, hq⟩ => ?_⟩
  subst hd
  walk_at "dl"
  refine fldOf (hrep_hall R) ha_left ?_
  walk_at "dl"
  exact ⟨_, hrep_lf R, hq⟩
end
end K

set_option Elab.async false
set_option linter.all false
set_option maxRecDepth 100000
/-! ### what is reached (no program in sight) -/
namespace HM
open PySem L2 DL
inductive Rch (G : Nat → List Vl) (ws : List Vl) : Nat → Prop where
  | root {n : Nat} : Vl.th n ∈ ws → Rch G ws n
  | step {m n : Nat} : Rch G ws m → Vl.th n ∈ G m → Rch G ws n
def msum (f : Nat → Nat) : Nat → Nat
  | 0 => 0
  | m + 1 => msum f m + f (m + 1)
theorem msum_congr {f g : Nat → Nat} : ∀ {m : Nat}, (∀ i, 1 ≤ i → i ≤ m → f i = g i) → msum f m = msum g m
  | 0, _ => rfl
  | m + 1, h => by
    unfold msum
    rw [msum_congr fun i h1 h2 => h i h1 (Nat.le_succ_of_le h2), h (m + 1) (Nat.succ_le_succ (Nat.zero_le _)) (Nat.le_refl _)]
theorem msum_dec {f g : Nat → Nat} {n d : Nat} : ∀ {m : Nat}, 1 ≤ n → n ≤ m → f n = g n + d → (∀ i, i ≠ n → f i = g i) → msum f m = msum g m + d
  | 0, h1, h2, _, _ => by omega
  | m + 1, h1, h2, h, hne => by
    unfold msum
    by_cases z : n = m + 1
    · subst z
      rw [msum_congr (f := f) (g := g) fun i _ h2 => hne i (by omega), h]
      omega
    · rw [msum_dec h1 (by omega) h hne, hne (m + 1) (Ne.symm z)]
      omega
def unmet (G : Nat → List Vl) (ks : List Nat) (n : Nat) : Nat := if n ∈ ks then 0 else (G n).length + 1
/-- how much may come yet -/
def todo (G : Nat → List Vl) (m : Nat) (ks : List Nat) (ws : List Vl) : Nat := ws.length + msum (unmet G ks) m
structure RInv (G : Nat → List Vl) (m : Nat) (roots : List Vl) (ks : List Nat) (ws : List Vl) : Prop where
  nd : ks.Nodup
  snd : ∀ n ∈ ks, Rch G roots n
  snw : ∀ n, Vl.th n ∈ ws → Rch G roots n
  rt : ∀ n, Vl.th n ∈ roots → n ∈ ks ∨ Vl.th n ∈ ws
  st : ∀ k ∈ ks, ∀ n, Vl.th n ∈ G k → n ∈ ks ∨ Vl.th n ∈ ws
  okw : ∀ v ∈ ws, VOk m v
  okk : ∀ n ∈ ks, 1 ≤ n ∧ n ≤ m
section
variable {G : Nat → List Vl} {m : Nat} {roots ws : List Vl} {ks : List Nat} {n : Nat}
theorem RInv.begin (ok : ∀ v ∈ roots, VOk m v) : RInv G m roots [] roots :=
  ⟨List.nodup_nil, fun _ h => (by cases h), fun n h => .root h, fun n h => .inr h, fun k h => (by cases h), ok, fun _ h => (by cases h)⟩
theorem RInv.non {v : Vl} (I : RInv G m roots ks (ws ++ [v])) (h : ∀ n, v = .th n → n ∈ ks) : RInv G m roots ks ws := by
  have go : ∀ n, (n ∈ ks ∨ Vl.th n ∈ ws ++ [v]) → n ∈ ks ∨ Vl.th n ∈ ws := fun n h1 => by
    rcases h1 with h1 | h1
    · exact .inl h1
    · rcases List.mem_append.mp h1 with h1 | h1
      · exact .inr h1
      · exact .inl (h n (List.mem_singleton.mp h1).symm)
  exact ⟨I.nd, I.snd, fun n h1 => I.snw n (List.mem_append_left _ h1), fun n h1 => go n (I.rt n h1), fun k hk n h1 => go n (I.st k hk n h1), fun v h1 => I.okw v (List.mem_append_left _ h1), I.okk⟩
theorem RInv.met (I : RInv G m roots ks (ws ++ [.th n])) (h : n ∉ ks) (ok : ∀ v ∈ G n, VOk m v) : RInv G m roots (ks ++ [n]) (ws ++ G n) := by
  have hr : Rch G roots n := I.snw n (List.mem_append_right _ (List.mem_singleton.mpr rfl))
  have go : ∀ i, (i ∈ ks ∨ Vl.th i ∈ ws ++ [Vl.th n]) → i ∈ ks ++ [n] ∨ Vl.th i ∈ ws ++ G n := fun i h1 => by
    rcases h1 with h1 | h1
    · exact .inl (List.mem_append_left _ h1)
    · rcases List.mem_append.mp h1 with h1 | h1
      · exact .inr (List.mem_append_left _ h1)
      · have := List.mem_singleton.mp h1
        cases this
        exact .inl (List.mem_append_right _ (List.mem_singleton.mpr rfl))
  refine ⟨List.nodup_append.mpr ⟨I.nd, by simp, fun a ha b hb e => h (by rw [← List.mem_singleton.mp hb, ← e]; exact ha)⟩, fun i hi => ?_, fun i hi => ?_, fun i hi => go i (I.rt i hi), fun k hk i hi => ?_, fun v hv => ?_, fun i hi => ?_⟩
  · rcases List.mem_append.mp hi with hi | hi
    · exact I.snd i hi
    · rw [List.mem_singleton.mp hi]; exact hr
  · rcases List.mem_append.mp hi with hi | hi
    · exact I.snw i (List.mem_append_left _ hi)
    · exact .step hr hi
  · rcases List.mem_append.mp hk with hk | hk
    · exact go i (I.st k hk i hi)
    · rw [List.mem_singleton.mp hk] at hi
      exact .inr (List.mem_append_right _ hi)
  · rcases List.mem_append.mp hv with hv | hv
    · exact I.okw v (List.mem_append_left _ hv)
    · exact ok v hv
  · rcases List.mem_append.mp hi with hi | hi
    · exact I.okk i hi
    · rw [List.mem_singleton.mp hi]
      exact I.okw (.th n) (List.mem_append_right _ (List.mem_singleton.mpr rfl))
theorem RInv.done (I : RInv G m roots ks []) (n : Nat) : n ∈ ks ↔ Rch G roots n := by
  refine ⟨I.snd n, fun h => ?_⟩
  induction h with
  | root h =>
    rcases I.rt _ h with h | h
    · exact h
    · cases h
  | step _ h ih =>
    rcases I.st _ ih _ h with h | h
    · exact h
    · cases h
theorem todo_non {v : Vl} : todo G m ks ws + 1 = todo G m ks (ws ++ [v]) := by
  unfold todo
  rw [List.length_append, List.length_singleton]
  omega
theorem todo_met (h1 : 1 ≤ n) (h2 : n ≤ m) (h : n ∉ ks) : todo G m (ks ++ [n]) (ws ++ G n) + 2 = todo G m ks (ws ++ [.th n]) := by
  unfold todo
  have := msum_dec (f := unmet G ks) (g := unmet G (ks ++ [n])) (d := (G n).length + 1) h1 h2 (by
    unfold unmet
    rw [if_neg h, if_pos (List.mem_append_right _ (List.mem_singleton.mpr rfl))]
    omega) fun i hi => by
    unfold unmet
    have : i ∈ ks ++ [n] ↔ i ∈ ks := by simp [hi]
    simp only [this]
  rw [this, List.length_append, List.length_append, List.length_singleton]
  omega
theorem perm_len {ks : List Nat} (nd : ks.Nodup) (h : ∀ n ∈ ks, 1 ≤ n ∧ n ≤ m) : ks.length ≤ m := by
  have : ∀ (m : Nat) (ks : List Nat), ks.Nodup → (∀ n ∈ ks, 1 ≤ n ∧ n ≤ m) → ks.length ≤ m := by
    intro m
    induction m with
    | zero =>
      intro ks _ h
      cases ks with
      | nil => exact Nat.le_refl _
      | cons a l => have := h a (List.mem_cons_self ..); omega
    | succ m ih =>
      intro ks nd h
      have h1 := ih (ks.erase (m + 1)) (nd.erase _) fun n hn => by
        have := h n (List.mem_of_mem_erase hn)
        have h3 : n ≠ m + 1 := fun e => by subst e; exact nd.not_mem_erase hn
        omega
      have : ks.length ≤ (ks.erase (m + 1)).length + 1 := by
        by_cases z : m + 1 ∈ ks
        · rw [List.length_erase_of_mem z]; omega
        · rw [List.erase_of_not_mem z]; omega
      omega
  exact this m ks nd h
end
end HM

set_option Elab.async false
set_option linter.all false
set_option maxRecDepth 100000
namespace K
open PySem L2 Evl EX DL HM
abbrev s_Held___init__ : Stmt := inClass (top 2) 0
abbrev N_Held___init__ : List Str := ["self", "values"]
theorem sc_Held___init__ : FnScope N_Held___init__ ["self", "values"] (defScope s_Held___init__) := ⟨rfl, rfl, rfl, by decide +kernel, rfl, by decide +kernel, by decide +kernel⟩
abbrev s_Held_held : Stmt := inClass (top 2) 1
abbrev N_Held_held : List Str := ["self"]
theorem sc_Held_held : FnScope N_Held_held ["self"] (defScope s_Held_held) := ⟨rfl, rfl, rfl, by decide +kernel, rfl, by decide +kernel, by decide +kernel⟩
abbrev s_led_to : Stmt := top 5
abbrev N_led_to : List Str := ["thing", "values", "key"]
theorem sc_led_to : FnScope N_led_to ["thing"] (defScope s_led_to) := ⟨rfl, rfl, rfl, by decide +kernel, rfl, by decide +kernel, by decide +kernel⟩
abbrev s_reached : Stmt := top 6
abbrev N_reached : List Str := ["hall", "roots", "met", "waiting", "value"]
theorem sc_reached : FnScope N_reached ["hall", "roots"] (defScope s_reached) := ⟨rfl, rfl, rfl, by decide +kernel, rfl, by decide +kernel, by decide +kernel⟩
structure TxW (K : PySem.W.Frag) (mg : Str → Option Value) (CT CH CD : Addr) : Prop extends Txt K mg CT CH where
  Held : GlD K mg "Held" (.ref CD)
  Held_ : ClsD K CD ["has"]
  HeldI : IsiC K CD
/-- what holds values -/
def heFs (has : D) : List (Str × D) := [("has", has)]
theorem he_has {x : D} : (heFs x).lookup ("has" : Str) = some x := rfl
/-- what a thing's own leads to: nothing, or a holder's values -/
def OwnH (CD : Addr) (H : HA) (S : Sto) (d : D) : Option (List Vl) → Prop
  | none => NoTh d
  | some vs => ∃ h dx l, d = .ref h ∧ S h = some (.ins CD dx (heFs (.ref l))) ∧ S l = some (.lst (vs.map (vD H)))
/-- all that stood stays -/
def Kpt (S S' : Sto) : Prop := ∀ b, S b ≠ none → S' b = S b
theorem Kpt.refl {S : Sto} : Kpt S S := fun _ _ => rfl
theorem Kpt.trans {S S' S2 : Sto} (h : Kpt S S') (g : Kpt S' S2) : Kpt S S2 := fun b hb => by rw [g b (by rw [h b hb]; exact hb), h b hb]
theorem Kpt.put {S S' : Sto} (h : Kpt S S') {p : Addr} (hp : S p = none) (o : O) : Kpt S (put S' p o) := fun b hb => by rw [put_ne (fun z => hb (by rw [z]; exact hp))]; exact h b hb
theorem Kpt.at {S S' : Sto} (h : Kpt S S') {a : Addr} {o : O} (e : S a = some o) : S' a = some o := by rw [h a (nn e)]; exact e
theorem Kpt.tr {CT CH : Addr} {en : D} {H : HA} {s : Hs} {S S' : Sto} (R : HRep CT CH en H s S) (h : Kpt S S') : HTr CT CH en H s S H s S' :=
  ⟨⟨⟨fun {l o} e => h.at (R.at_ e), R.inj⟩, fun b hb _ => h b hb, fun b hb => by rw [h b hb]; exact hb, fun l hl => .inl ⟨hl, rfl⟩, fun _ _ _ => rfl⟩, Nat.le_refl _⟩
theorem OwnH.kpt {CD : Addr} {H : HA} {S S' : Sto} {d : D} {o : Option (List Vl)} (h : OwnH CD H S d o) (k : Kpt S S') : OwnH CD H S' d o := by
  cases o with
  | none => exact h
  | some vs =>
    obtain ⟨a, dx, l, e1, e2, e3⟩ := h
    exact ⟨a, dx, l, e1, k.at e2, k.at e3⟩
theorem gval_nodup {β : Type} {kv : Key × β} : ∀ {l : List (Key × β)}, (l.map (·.1)).Nodup → kv ∈ l → gval l kv.1 = some kv.2
  | [], _, h => by cases h
  | a :: l, nd, h => by
    rw [List.map_cons, List.nodup_cons] at nd
    unfold gval
    rw [List.find?_cons]
    rcases List.mem_cons.mp h with rfl | h
    · simp
    · have : a.1 ≠ kv.1 := fun e => nd.1 (by rw [e]; exact List.mem_map.mpr ⟨kv, h, rfl⟩)
      simp only [this, decide_false]
      exact gval_nodup nd.2 h
section
variable {P : Program} {w : World} {K : PySem.W.Frag} {mg : Str → Option Value} {base : Heap} {CT CH CD : Addr} {en : D}
local macro_rules | `(tactic| walk_at "dl") => `(tactic| try simp only [↓x_lcN, ↓x_lcSN, ↓x_catM, ↓x_neV, ↓x_sortSet, ↓x_sortDLN, ↓x_lrg, ↓x_neg, ↓x_lcS, ↓x_lockE, ↓x_eqA, ↓x_dictD, ↓x_disp, ↓x_pNil, ↓x_pCons, ↓x_forS, ↓x_diSL, ↓x_diKeys, ↓x_lock, ↓x_dictP, ↓x_fld, ↓x_fldS, ↓x_fldA, ↓x_meth, ↓x_make, ↓x_dget, ↓x_din, ↓x_dget1, ↓x_dget2, ↓x_dpop, ↓x_dput, ↓x_listD, ↓x_sortDI, ↓x_lenD, ↓x_isiC, x_icS, x_icI, x_icB, x_icN, x_ioS, x_ioI, x_ioB, x_ioN, ↓x_gSub, ↓x_sortDL, ↓x_eqO, ↓x_ninA, x_catN, x_isBB, x_isBN, x_isBI, x_isBS, x_isBR, ↓x_seq, ↓x_nx, ↓x_pass, ↓x_brk, ↓x_cnt, ↓x_drop, ↓x_ret, ↓x_retN, ↓x_ifS, ↓x_set, ↓x_asg, ↓x_gN, ↓x_gT, ↓x_gsC, ↓x_gsN, ↓x_var, x_rdv, ↓x_c, ↓x_op, ↓x_test, x_tst, ↓x_and, ↓x_or, ↓x_not, ↓x_andV, ↓x_orV, ↓x_notV, x_tstV, ↓x_ifE, x_true, x_false, ↓x_nil, ↓x_cons, ↓x_tup, ↓x_lst, ↓x_new, ↓x_newD, ↓x_call, ↓x_cb, x_oI, x_oIc, x_oS, x_addS, x_isN, x_notN, x_eqI, x_eqS, x_eqIS, x_eqSI, x_eqNS, x_neI, x_neS, x_neB, x_eqB, x_few, x_need, ↓x_ix, x_lenS, x_ixL0, x_ixT0, x_ixT1, x_ixT2, x_ixT3, x_ixT4, x_lenL, x_lenT, x_lenC, x_listL, x_listT, x_tupL, x_tupT, x_strI, x_strS, x_int1, x_intB, x_I1, x_I2, x_cat, x_catT, ↓x_split, ↓x_for, ↓x_cut, ↓x_lc, ↓x_whl, ↓x_diL, ↓x_diT, ↓x_diS, x_itL, x_itC, x_itT, x_itS, ↓x_diR1, ↓x_diR2, ↓x_diE, x_enmL, x_enmC, ↓x_gcN, ↓x_gcT, ↓x_yes, ↓x_ml, ↓x_ms, x_strq, x_ss, x_ssc, x_ssi, ↓x_join, ↓x_aug, x_st2I, ↓x_sl, ↓x_noP, ↓x_part, x_intq, x_slL, x_slC, x_slS, ↓x_in, x_inT, x_inL, x_ninT, x_ninL, x_inN, x_inSS, x_inSI, x_inIS, x_inII, ↓x_sg, x_sgS, x_nsgS, ↓x_eqD, ↓x_inDD, x_mulS, ↓x_isi, x_isiS, x_isiI, x_isiB, x_isiN, x_isiL, x_isiT, ↓x_isTT, x_itI, x_itStr, x_itN, x_itB, x_itLst, x_itTup, ↓x_any, ↓x_all, ↓x_sum, ↓x_srtI, ↓x_srtS, ↓x_intS, ↓x_lenRf, ↓x_tupRf, ↓x_frz', x_flS, x_flI, x_flN, x_flB, x_cs_bool, x_isB_NoneType_bool, x_isB_bool_bool, x_isB_int_bool, x_isB_str_bool, x_isB_list_bool, x_isB_tuple_bool, x_isB_dict_bool, x_cs_int, x_isB_NoneType_int, x_isB_bool_int, x_isB_int_int, x_isB_str_int, x_isB_list_int, x_isB_tuple_int, x_isB_dict_int, x_cs_str, x_isB_NoneType_str, x_isB_bool_str, x_isB_int_str, x_isB_str_str, x_isB_list_str, x_isB_tuple_str, x_isB_dict_str, x_cs_list, x_isB_NoneType_list, x_isB_bool_list, x_isB_int_list, x_isB_str_list, x_isB_list_list, x_isB_tuple_list, x_isB_dict_list, x_cs_tuple, x_isB_NoneType_tuple, x_isB_bool_tuple, x_isB_int_tuple, x_isB_str_tuple, x_isB_list_tuple, x_isB_tuple_tuple, x_isB_dict_tuple, x_cs_dict, x_isB_NoneType_dict, x_isB_bool_dict, x_isB_int_dict, x_isB_str_dict, x_isB_list_dict, x_isB_tuple_dict, x_isB_dict_dict, List.all_cons, List.all_nil, Bool.and_self, Bool.or_false, Bool.or_true, Bool.false_or, Bool.true_or, wipeD, setD, DL.isNon, List.set_cons_zero, List.set_cons_succ, List.getElem?_cons_zero, List.getElem?_cons_succ, List.length_cons, List.length_nil, Nat.zero_add, List.cons_append, List.nil_append, decide_true, decide_false, Bool.not_true, Bool.not_false, true_and, and_true, startD, List.map_cons, List.map_nil, Nat.reduceSub, Nat.reduceLeDiff, Nat.zero_le, Int.reduceLT, Int.reduceLE, and_self, Nat.reduceAdd, List.replicate])
def dHeInit (CD : Addr) : SpD := fun ds S k _ => ∃ (a dx : Addr) (vs : List D), ds = [.ref a, .list vs] ∧ vs.length ≤ 90000 ∧ S a = some (.ins CD dx []) ∧ ∀ l, S l = none → k .non (put (put S l (.lst vs)) a (.ins CD dx (heFs (.ref l))))
theorem ok_heinit {fa : Addr} {fd : FuncData} (F : Fun K "__init__" "Held.__init__" s_Held___init__ fa fd) (T : TxW K mg CT CH CD) : FnOk P w K mg base CX0 1 fa fd ["self", "values"] (lSp K (dHeInit CD)) := by
  refine dok F sc_Held___init__ (fun ds S q qx ⟨a, dx, vs, h, _⟩ => by rw [h]; rfl) ⟨_, fun cdv A outer s H E hr => dss_one (ds_fld T.Held_ (by decide +kernel) (de_var 0) (de_callTy (clList (K := K)) si_listN (by rfl) T.list (by decide +kernel) (da_cons (de_var 1) da_nil))), fun ds S q qx ⟨a, dx, vs, hd, hl, ha, h⟩ => ?_⟩
  subst hd
  walk_at "dl"
  refine ⟨vs, rfl, fun l hl' => ?_⟩
  walk_at "dl"
  refine fldsOf (by rw [put_ne (sto_ne ha hl')]; exact ha) (Nat.le_of_ble_eq_true rfl) ?_
  exact h l hl'
def dHeld (CD : Addr) : SpD := fun ds S k _ => ∃ (a dx l : Addr) (vs : List D), ds = [.ref a] ∧ S a = some (.ins CD dx (heFs (.ref l))) ∧ S l = some (.lst vs) ∧ k (.list vs) S
theorem ok_held {fa : Addr} {fd : FuncData} (F : Fun K "held" "Held.held" s_Held_held fa fd) (T : TxW K mg CT CH CD) : FnOk P w K mg base CX0 1 fa fd ["self"] (lSp K (dHeld CD)) := by
  refine dok F sc_Held_held (fun ds S q qx ⟨a, dx, l, vs, h, _⟩ => by rw [h]; rfl) ⟨_, fun cdv A outer s H E hr => dss_one (ds_ret (de_callTy (clList (K := K)) si_list (by rfl) T.list (by decide +kernel) (da_cons (de_fld T.Held_ (by decide +kernel) (de_var 0)) da_nil))), fun ds S q qx ⟨a, dx, l, vs, hd, ha, hl, h⟩ => ?_⟩
  subst hd
  walk_at "dl"
  refine fldOf ha he_has ?_
  walk_at "dl"
  exact ⟨vs, hl, h⟩
/-- the same, as a list that may change -/
def dHeldN (CD : Addr) : SpD := fun ds S k _ => ∃ (a dx l : Addr) (vs : List D), ds = [.ref a] ∧ S a = some (.ins CD dx (heFs (.ref l))) ∧ S l = some (.lst vs) ∧ ∀ p, S p = none → k (.ref p) (put S p (.lst vs))
theorem ok_heldN {fa : Addr} {fd : FuncData} (F : Fun K "held" "Held.held" s_Held_held fa fd) (T : TxW K mg CT CH CD) : FnOk P w K mg base CX0 1 fa fd ["self"] (lSp K (dHeldN CD)) := by
  refine dok F sc_Held_held (fun ds S q qx ⟨a, dx, l, vs, h, _⟩ => by rw [h]; rfl) ⟨_, fun cdv A outer s H E hr => dss_one (ds_ret (de_callTy (clList (K := K)) si_listN (by rfl) T.list (by decide +kernel) (da_cons (de_fld T.Held_ (by decide +kernel) (de_var 0)) da_nil))), fun ds S q qx ⟨a, dx, l, vs, hd, ha, hl, h⟩ => ?_⟩
  subst hd
  walk_at "dl"
  refine fldOf ha he_has ?_
  walk_at "dl"
  exact ⟨vs, hl, h⟩
/-- all that a thing leads to -/
def ledV (s : Hs) (hv : Nat → Option (List Vl)) (n : Nat) : List Vl := (s.parts n).map (·.2) ++ (hv n).getD []
def dLedTo (CT CH CD : Addr) (en : D) : SpD := fun ds S k _ => ∃ (H : HA) (s : Hs) (n : Nat) (hv : Nat → Option (List Vl)), ds = [.ref (H.a (.t n))] ∧ HRep CT CH en H s S ∧ Wf s ∧ 1 ≤ n ∧ n ≤ s.many ∧ OwnH CD H S (s.own n) (hv n) ∧ (ledV s hv n).length ≤ 90000 ∧
  ∀ S', Kpt S S' → k (.list ((ledV s hv n).map (vD H))) S'
theorem ok_ledto {fa : Addr} {fd : FuncData} (F : Fun K "led_to" "led_to" s_led_to fa fd) (T : TxW K mg CT CH CD) (G_Held_held : MDef P w K mg base 1 CD "held" ["self"] (lSp K (dHeld CD))) : FnOk P w K mg base CX0 2 fa fd ["thing"] (lSp K (dLedTo CT CH CD en)) := by
  refine dok F sc_led_to (fun ds S q qx ⟨H, s, n, hv, h, _⟩ => by rw [h]; rfl) ⟨_, fun cdv A outer s H E hr => dss_cons (ds_lock (ds_setLcSN (i := 1) (own := [("key", 2)]) (gc_name (j := 2) (by decide)) rfl sc_led_to.nd rfl rfl (sw_true rfl rfl rfl (by decide +kernel)) (di_keys (de_fld T.Thing_ (by decide +kernel) (de_var 0))) (blkOk_by (N := N_led_to) (sc := defScope s_led_to) (by decide +kernel)) (fun _ _ _ _ _ => pg_name (i := 2) sc_led_to.nd rfl (Or.inl rfl)) (fun _ _ _ _ _ => dts_nil) (fun _ _ _ _ _ => de_dget (hu_of hr) (de_fld T.Thing_ (by decide +kernel) (de_var 0)) (de_var 2) (fun _ _ => rfl))))
      (dss_cons (ds_if (dt_val (de_callB (clIsi' (K := K)) (si_isiC T.HeldI) (by rfl) T.isinstance (by decide +kernel) (da_cons (de_fld T.Thing_ (by decide +kernel) (de_var 0)) (da_cons (de_gl (by rfl) T.Held) da_nil))))
        (dss_one (ds_expr (de_ml PySem.F.slot_list_extend PySem.F.type_list_extend mt_extend si_ext (de_var 1) (da_cons (de_meth0 T.Held_ G_Held_held (hr.mono (by decide)) (de_fld T.Thing_ (by decide +kernel) (de_var 0))) da_nil))))
        (dss_nil))
      (dss_one (ds_ret (de_frz 1)))), fun ds S q qx ⟨H, s, n, hv, hd, R, W, h1, h2, ho, hl, h⟩ => ?_⟩
  subst hd
  have ht := hrep_t R h1 h2
  have hp := hrep_pd R h1 h2
  walk_at "dl"
  refine lockOf hp fun od xs => ?_
  have npt : H.a (.t n) ≠ H.a (.pd n) := R.ne (nn (hC_t h1 h2)) (nn (hC_pd h1 h2)) nofun
  have hL : (put S (H.a (.pd n)) (.lck od xs ((s.parts n).map fun kv => ((kv.1, vD H kv.2) : Key × D)))) (H.a (.pd n)) = some (.lck od xs ((s.parts n).map fun kv => ((kv.1, vD H kv.2) : Key × D))) := put_same
  have ht' := (put_ne (S := S) (o := .lck od xs ((s.parts n).map fun kv => ((kv.1, vD H kv.2) : Key × D))) npt).trans ht
  have hdel : ∀ b, b ≠ H.a (.pd n) → put S (H.a (.pd n)) (.lck od xs ((s.parts n).map fun kv => ((kv.1, vD H kv.2) : Key × D))) b = S b := fun b hb => put_ne hb
  have hback : put (put S (H.a (.pd n)) (.lck od xs ((s.parts n).map fun kv => ((kv.1, vD H kv.2) : Key × D)))) (H.a (.pd n)) (.dct ((s.parts n).map fun kv => ((kv.1, vD H kv.2) : Key × D))) = S := by rw [put_put, put_self hp]
  generalize put S (H.a (.pd n)) (.lck od xs ((s.parts n).map fun kv => ((kv.1, vD H kv.2) : Key × D))) = SL at hL ht' hdel hback
  walk_at "dl"
  refine fldOf ht' th_parts ?_
  walk_at "dl"
  refine skOf hL ?_
  refine lcSNOf (fun i acc => acc = ((s.parts n).take i).map fun kv => vD H kv.2) (by rw [List.length_map, List.length_map]; have := W.plen n; omega) (fun p' acc hp' => by rw [put_ne (sto_ne hL hp')]; exact hL) rfl ?_ ?_
  · rintro p' hp' i d acc hi rfl
    rw [List.map_map, List.getElem?_map] at hi
    obtain ⟨kv, hkv, hd⟩ := Option.map_eq_some_iff.mp hi
    have hd : dK kv.1 = d := hd
    subst hd
    have hgv : gval ((s.parts n).map fun kv => ((kv.1, vD H kv.2) : Key × D)) kv.1 = some (vD H kv.2) := by
      rw [gval_vD, gval_nodup (W.key n) (List.mem_of_getElem? hkv)]
      rfl
    walk_at "dl"
    refine fldOf (by rw [put_ne (sto_ne ht' hp')]; exact ht') th_parts ?_
    walk_at "dl"
    refine dgetOfR (.inr ⟨od, xs, by rw [put_ne (sto_ne hL hp')]; exact hL⟩) (keyD_dK kv.1) hgv ?_
    refine LcO.of hp' ?_
    rw [List.take_add_one, hkv, List.map_append]
    rfl
  · rintro acc pv hpv rfl
    have el : ((s.parts n).take (List.map (fun kv : Key × D => dK kv.1) ((s.parts n).map fun kv => ((kv.1, vD H kv.2) : Key × D))).length) = s.parts n := by rw [List.length_map, List.length_map, List.take_length]
    rw [el]
    have npv : pv ≠ H.a (.pd n) := Ne.symm (sto_ne hL hpv)
    have hpv0 : S pv = none := by rw [← hdel pv npv]; exact hpv
    walk_at "dl"
    refine ⟨by rw [put_ne (Ne.symm npv)]; exact hL, ?_⟩
    rw [put_comm npv, hback]
    have R2 := (Kpt.tr R (Kpt.refl.put hpv0 (.lst ((s.parts n).map fun kv => vD H kv.2)))).rep
    have ht2 := hrep_t R2 h1 h2
    have fin : ∀ e : List Vl, (ledV s hv n) = (s.parts n).map (·.2) ++ e → q (.list (((s.parts n).map fun kv => vD H kv.2) ++ e.map (vD H))) S := fun e he => by
      have := h S Kpt.refl
      rw [he, List.map_append, List.map_map] at this
      exact this
    walk_at "dl"
    refine fldOf ht2 th_own ?_
    cases eh : hv n with
    | none =>
      rw [eh] at ho
      have fin0 := fin [] (by unfold ledV; rw [eh]; rfl)
      rw [List.map_nil, List.append_nil] at fin0
      have ho : NoTh (s.own n) := ho
      generalize s.own n = o at ho
      have last : frzq (.ref pv) (put S pv (.lst ((s.parts n).map fun kv => vD H kv.2))) (fun x S' => q x S') ⟨⟩ := frzOf put_same (by rw [del_put hpv0]; exact fin0)
      cases ho with
      | non => walk_at "dl"; exact last
      | int i => walk_at "dl"; exact last
      | str z hz => walk_at "dl"; exact last
      | bl b => walk_at "dl"; exact last
    | some vs =>
      rw [eh] at ho
      obtain ⟨ah, dx, l, e1, e2, e3⟩ := ho
      have fin1 := fin vs (by unfold ledV; rw [eh]; rfl)
      rw [e1]
      rw [e1] at ht2
      have e2' : put S pv (.lst ((s.parts n).map fun kv => vD H kv.2)) ah = _ := (put_ne (sto_ne e2 hpv0)).trans e2
      have e3' : put S pv (.lst ((s.parts n).map fun kv => vD H kv.2)) l = _ := (put_ne (sto_ne e3 hpv0)).trans e3
      walk_at "dl"
      rw [x_own e2']
      walk_at "dl"
      refine needOf (isLOf put_same) ?_
      walk_at "dl"
      refine fldOf ht2 th_own ?_
      walk_at "dl"
      refine needOf (methOf (x := .non) e2' rfl) ?_
      walk_at "dl"
      refine ⟨ah, dx, l, vs.map (vD H), rfl, e2', e3', ?_⟩
      walk_at "dl"
      refine extOf put_same (by rw [List.length_map, List.length_map]; unfold ledV at hl; rw [eh, List.length_append, List.length_map] at hl; have hl : (s.parts n).length + vs.length ≤ 90000 := hl; omega) ?_
      rw [put_put]
      walk_at "dl"
      exact frzOf put_same (by rw [del_put hpv0]; exact fin1)
def metD (ks : List Nat) : List (Key × D) := ks.map fun n : Nat => ((.inl (n : Int), .bl true) : Key × D)
theorem met_in {ks : List Nat} {n : Nat} : (gval (metD ks) (.inl (n : Int))).isSome = decide (n ∈ ks) := by
  unfold gval metD
  rw [Option.isSome_map, List.find?_map, Option.isSome_map]
  induction ks with
  | nil => rfl
  | cons a l ih =>
    rw [List.find?_cons]
    by_cases z : a = n
    · subst z; simp
    · have : ((fun kv : Key × D => decide (kv.1 = .inl (n : Int))) ∘ fun n : Nat => ((.inl (n : Int), .bl true) : Key × D)) a = false := by
        simp only [Function.comp, decide_eq_false_iff_not]
        intro e
        have := Sum.inl.inj e
        omega
      rw [this]
      simp only [List.mem_cons]
      rw [ih]
      simp [Ne.symm z]
theorem met_put {ks : List Nat} {n : Nat} (h : n ∉ ks) : gput (metD ks) (.inl (n : Int)) (.bl true) = metD (ks ++ [n]) := by
  have : gval (metD ks) (.inl (n : Int)) = none := by
    have := met_in (ks := ks) (n := n)
    rw [decide_eq_false h] at this
    exact Option.isSome_eq_false_iff.mp this |> Option.isNone_iff_eq_none.mp
  rw [gput_new this]
  unfold metD
  rw [List.map_append]
  rfl
/-- what is reached from the roots on, in rising order -/
def RchL (s : Hs) (hv : Nat → Option (List Vl)) (roots : List Vl) (ys : List Int) : Prop := ys.Pairwise (· < ·) ∧ ∀ j : Int, j ∈ ys ↔ ∃ n : Nat, j = (n : Int) ∧ Rch (ledV s hv) roots n
def dReached (CT CH CD : Addr) (en : D) : SpD := fun ds S k _ => ∃ (H : HA) (s : Hs) (hv : Nat → Option (List Vl)) (roots : List Vl), ds = [.ref (H.a .hall), .list (roots.map (vD H))] ∧ HRep CT CH en H s S ∧ Wf s ∧ (∀ n, 1 ≤ n → n ≤ s.many → OwnH CD H S (s.own n) (hv n)) ∧
  (∀ v ∈ roots, VOk s.many v) ∧ (∀ n vs, hv n = some vs → ∀ v ∈ vs, VOk s.many v) ∧ roots.length + msum (fun n => (ledV s hv n).length + 1) s.many ≤ 90000 ∧
  ∀ (ys : List Int) (p : Addr) S', Kpt S S' → S p = none → S' p = some (.lst (ys.map D.int)) → RchL s hv roots ys → k (.ref p) S'
theorem todo_len {G : Nat → List Vl} {m : Nat} {ks : List Nat} {ws : List Vl} : ws.length ≤ todo G m ks ws := Nat.le_add_right _ _
theorem unmet_nil {G : Nat → List Vl} {m : Nat} {ws : List Vl} : todo G m [] ws = ws.length + msum (fun n => (G n).length + 1) m := rfl
theorem ok_reached {fa : Addr} {fd : FuncData} (F : Fun K "reached" "reached" s_reached fa fd) (T : TxW K mg CT CH CD) (G_led_to : DefD P w K mg base 2 "led_to" ["thing"] (dLedTo CT CH CD en)) : FnOk P w K mg base CX0 3 fa fd ["hall", "roots"] (lSp K (dReached CT CH CD en)) := by
  refine dok F sc_reached (fun ds S q qx ⟨H, s, hv, roots, h, _⟩ => by rw [h]; rfl) ⟨_, fun cdv A outer s H E hr => dss_cons (ds_set (i := 2) sc_reached.nd rfl (Or.inl rfl) (de_newD))
      (dss_cons (ds_set (i := 3) sc_reached.nd rfl (Or.inl rfl) (de_callTy (clList (K := K)) si_listN (by rfl) T.list (by decide +kernel) (da_cons (de_var 1) da_nil)))
      (dss_cons (ds_while PassesOwn.never (dt_cmp op_gt si_gt (de_callB call_len (si_len rfl) (by rfl) T.len (by decide +kernel) (da_cons (de_var 3) da_nil)) (de_int) (nomark _))
        (dss_cons (ds_set (i := 4) sc_reached.nd rfl (Or.inl rfl) (de_ml0 PySem.F.slot_list_pop PySem.F.type_list_pop mt_pop si_pop (de_var 3)))
        (dss_one (ds_if (PW.pt (dw_and (dt_val (de_callB (clIsi' (K := K)) (si_isiC T.ThingI) (by rfl) T.isinstance (by decide +kernel) (da_cons (de_var 4) (da_cons (de_gl (by rfl) T.Thing) da_nil)))) (dw_and1 (dt_dinN (hu_of hr) (de_fld T.Thing_ (by decide +kernel) (de_var 4)) (de_var 2)))))
          (dss_cons (ds_dput (hu_of hr) (de_var 2) (de_fld T.Thing_ (by decide +kernel) (de_var 4)) (de_bl))
          (dss_one (ds_expr (de_ml PySem.F.slot_list_extend PySem.F.type_list_extend mt_extend si_ext (de_var 3) (da_cons (de_call G_led_to (hr.mono (by decide)) (by rfl) (da_cons (de_var 4) da_nil)) da_nil)))))
          (dss_nil)))))
      (dss_one (ds_ret (de_callB (SD.call_sortedDL rfl) si_sortDLN (by rfl) T.sorted (by decide +kernel) (da_cons (de_var 2) da_nil)))))), fun ds S q qx ⟨H, s, hv, roots, hd, R, W, ho, hr, hvo, hl, h⟩ => ?_⟩
  subst hd
  walk_at "dl"
  refine freshOf fun pm hpm => ?_
  walk_at "dl"
  refine ⟨_, rfl, fun pw hpw => ?_⟩
  walk_at "dl"
  have npm : S pw = none := by rw [put_ne (Ne.symm (sto_ne put_same hpw))] at hpw; exact hpw
  have nmw : pm ≠ pw := sto_ne put_same hpw
  have ok_led : ∀ n, 1 ≤ n → n ≤ s.many → ∀ v ∈ ledV s hv n, VOk s.many v := fun n h1 h2 v hv' => by
    rcases List.mem_append.mp hv' with hv' | hv'
    · obtain ⟨kv, hk, rfl⟩ := List.mem_map.mp hv'
      exact W.pv n kv hk
    · cases e : hv n with
      | none => rw [e] at hv'; cases hv'
      | some vs => rw [e] at hv'; exact hvo n vs e v hv'
  refine whlOf (fun m δ S' => ∃ ks ws z, m ≤ 90000 ∧ δ = [some (.ref (H.a .hall)), some (.list (roots.map (vD H))), some (.ref pm), some (.ref pw), z] ∧ Kpt S S' ∧ S' pm = some (.dct (metD ks)) ∧ S' pw = some (.lst (ws.map (vD H))) ∧ RInv (ledV s hv) s.many roots ks ws ∧ m = todo (ledV s hv) s.many ks ws)
    (todo (ledV s hv) s.many [] roots) ⟨[], roots, _, by rw [unmet_nil]; exact hl, rfl, (Kpt.refl.put hpm _).put npm _, by rw [put_ne nmw]; exact put_same, put_same, RInv.begin hr, rfl⟩ ?_
  rintro m δ S' ⟨ks, ws, z, hm, rfl, kp, e1, e2, I, rfl⟩
  have R' := (Kpt.tr R kp).rep
  walk_at "dl"
  refine lenRf e2 ?_
  walk_at "dl"
  refine br (fun hb => ?_) (fun hb => ?_)
  · have hne : ws ≠ [] := fun z => by rw [z] at hb; simp at hb
    obtain ⟨ws', v, rfl⟩ : ∃ ws' v, ws = ws' ++ [v] := ⟨ws.dropLast, ws.getLast hne, (List.dropLast_concat_getLast hne).symm⟩
    rw [List.map_append] at e2
    walk_at "dl"
    refine needOf (isLOf e2) ?_
    walk_at "dl"
    refine popOf e2 ?_
    have kp2 : Kpt S (put S' pw (.lst (ws'.map (vD H)))) := kp.put npm _
    have e1' : put S' pw (.lst (ws'.map (vD H))) pm = _ := (put_ne nmw).trans e1
    have hv1 := I.okw v (List.mem_append_right _ (List.mem_singleton.mpr rfl))
    have pass : ∀ z : Option D, (∀ n, v = .th n → n ∈ ks) → ∃ m', m' < todo (ledV s hv) s.many ks (ws' ++ [v]) ∧ ∃ ks ws z', m' ≤ 90000 ∧ ([some (.ref (H.a .hall)), some (.list (roots.map (vD H))), some (.ref pm), some (.ref pw), z] : Dst) = [some (.ref (H.a .hall)), some (.list (roots.map (vD H))), some (.ref pm), some (.ref pw), z'] ∧ Kpt S (put S' pw (.lst (ws'.map (vD H)))) ∧ put S' pw (.lst (ws'.map (vD H))) pm = some (.dct (metD ks)) ∧ put S' pw (.lst (ws'.map (vD H))) pw = some (.lst (ws.map (vD H))) ∧ RInv (ledV s hv) s.many roots ks ws ∧ m' = todo (ledV s hv) s.many ks ws := fun z hz => by
      have := todo_non (G := ledV s hv) (m := s.many) (ks := ks) (ws := ws') (v := v)
      exact ⟨todo (ledV s hv) s.many ks ws', by omega, ks, ws', z, by omega, rfl, kp2, e1', put_same, I.non hz, rfl⟩
    cases v with
    | no d =>
      have hv1 : NoTh d := hv1
      have pass := pass (some d) (fun n z => by cases z)
      show _
      rw [show vD H (.no d) = d from rfl]
      cases hv1 with
      | non => walk_at "dl"; exact pass
      | int i => walk_at "dl"; exact pass
      | str z hz => walk_at "dl"; exact pass
      | bl b => walk_at "dl"; exact pass
    | th n =>
      have hb2 : 1 ≤ n ∧ n ≤ s.many := hv1
      have R2 := (Kpt.tr R kp2).rep
      have ht := hrep_t R2 hb2.1 hb2.2
      rw [show vD H (.th n) = .ref (H.a (.t n)) from rfl]
      walk_at "dl"
      rw [x_own ht]
      walk_at "dl"
      refine fldOf ht th_number ?_
      walk_at "dl"
      refine dninOf e1' rfl ?_
      rw [met_in]
      walk_at "dl"
      by_cases hk : n ∈ ks
      · rw [decide_eq_true hk]
        walk_at "dl"
        exact pass _ (fun j z => by cases z; exact hk)
      · rw [decide_eq_false hk]
        walk_at "dl"
        refine fldOf ht th_number ?_
        walk_at "dl"
        have hlen := perm_len I.nd I.okk
        refine dputOf e1' rfl (by unfold metD; rw [List.length_map]; have := W.most; omega) ?_
        rw [met_put hk]
        have e2'' : put (put S' pw (.lst (ws'.map (vD H)))) pm (.dct (metD (ks ++ [n]))) pw = some (.lst (ws'.map (vD H))) := (put_ne (Ne.symm nmw)).trans put_same
        have e1'' : put (put S' pw (.lst (ws'.map (vD H)))) pm (.dct (metD (ks ++ [n]))) pm = some (.dct (metD (ks ++ [n]))) := put_same
        have kp3 : Kpt S (put (put S' pw (.lst (ws'.map (vD H)))) pm (.dct (metD (ks ++ [n])))) := kp2.put hpm _
        generalize put (put S' pw (.lst (ws'.map (vD H)))) pm (.dct (metD (ks ++ [n]))) = S3 at e2'' e1'' kp3
        walk_at "dl"
        refine needOf (isLOf e2'') ?_
        walk_at "dl"
        have td := todo_met (G := ledV s hv) (ws := ws') hb2.1 hb2.2 hk
        have tl := todo_len (G := ledV s hv) (m := s.many) (ks := ks ++ [n]) (ws := ws' ++ ledV s hv n)
        rw [List.length_append] at tl
        refine ⟨H, s, n, hv, rfl, (Kpt.tr R kp3).rep, W, hb2.1, hb2.2, (ho n hb2.1 hb2.2).kpt kp3, by omega, fun S4 kp4 => ?_⟩
        have e24 := kp4.at e2''
        have e14 := kp4.at e1''
        have kp5 := kp3.trans kp4
        walk_at "dl"
        refine extOf e24 (by rw [List.length_map, List.length_map]; omega) ?_
        walk_at "dl"
        exact ⟨todo (ledV s hv) s.many (ks ++ [n]) (ws' ++ ledV s hv n), by omega, ks ++ [n], ws' ++ ledV s hv n, _, by omega, rfl, kp5.put npm _, (put_ne nmw).trans e14, by rw [put_same, List.map_append], I.met hk (ok_led n hb2.1 hb2.2), rfl⟩
  · have hne : ws = [] := by
      cases ws with
      | nil => rfl
      | cons a l => exact absurd hb (by simp)
    subst hne
    walk_at "dl"
    have hlen := perm_len I.nd I.okk
    refine ⟨metD ks, ks.map fun n : Nat => (n : Int), e1, by unfold metD; rw [List.map_map, List.map_map]; rfl, by rw [List.length_map]; have := W.most; omega, fun ys p pm' pw' hp => ?_⟩
    have hnd : (ks.map fun n : Nat => (n : Int)).Nodup := List.pairwise_map.mpr (I.nd.imp fun h e => h (Int.ofNat.inj e))
    refine h ys p _ (kp.put (by cases e : S p with | none => rfl | some o => rw [kp p (nn e), e] at hp; cases hp) _) (by cases e : S p with | none => rfl | some o => rw [kp p (nn e), e] at hp; cases hp) put_same ⟨?_, fun j => ?_⟩
    · exact (pw'.and (pm'.nodup_iff.mpr hnd)).imp fun ⟨a, b⟩ => by omega
    · rw [pm'.mem_iff, List.mem_map]
      exact ⟨fun ⟨n, h1, h2⟩ => ⟨n, h2.symm, (I.done n).mp h1⟩, fun ⟨n, h1, h2⟩ => ⟨n, (I.done n).mpr h2, h1.symm⟩⟩
end
end K

set_option Elab.async false
set_option linter.all false
set_option maxRecDepth 100000
namespace K
open PySem L2 Evl EX DL HM
abbrev s__law_model : Stmt := top 14
abbrev N__law_model : List Str := ["_law_ender", "_law_model_here"]
theorem sc__law_model : FnScope N__law_model ["_law_ender"] (defScope s__law_model) := ⟨rfl, rfl, rfl, by decide +kernel, rfl, by decide +kernel, by decide +kernel⟩
abbrev s__law_count : Stmt := top 15
abbrev N__law_count : List Str := ["_law_m", "_law_n", "_law_many", "_law_sort", "_law_k", "_law_key_here", "_law_value_here"]
theorem sc__law_count : FnScope N__law_count ["_law_m", "_law_n"] (defScope s__law_count) := ⟨rfl, rfl, rfl, by decide +kernel, rfl, by decide +kernel, by decide +kernel⟩
abbrev s__law_loosed : Stmt := top 16
abbrev N__law_loosed : List Str := ["_law_m", "_law_value_here"]
theorem sc__law_loosed : FnScope N__law_loosed ["_law_m", "_law_value_here"] (defScope s__law_loosed) := ⟨rfl, rfl, rfl, by decide +kernel, rfl, by decide +kernel, by decide +kernel⟩
abbrev s__law_worked : Stmt := top 17
abbrev N__law_worked : List Str := ["_law_m", "_law_n"]
theorem sc__law_worked : FnScope N__law_worked ["_law_m"] (defScope s__law_worked) := ⟨rfl, rfl, rfl, by decide +kernel, rfl, by decide +kernel, by decide +kernel⟩
abbrev s__law_left : Stmt := top 18
abbrev N__law_left : List Str := ["_law_m", "_law_n"]
theorem sc__law_left : FnScope N__law_left ["_law_m", "_law_n"] (defScope s__law_left) := ⟨rfl, rfl, rfl, by decide +kernel, rfl, by decide +kernel, by decide +kernel⟩
abbrev s__law_emptied : Stmt := top 19
abbrev N__law_emptied : List Str := ["_law_m", "_law_n", "_law_key_here", "_law_value_here"]
theorem sc__law_emptied : FnScope N__law_emptied ["_law_m", "_law_n"] (defScope s__law_emptied) := ⟨rfl, rfl, rfl, by decide +kernel, rfl, by decide +kernel, by decide +kernel⟩
abbrev s__law_ask : Stmt := top 20
abbrev N__law_ask : List Str := ["_law_m", "_law_n", "_law_row", "_law_deed"]
theorem sc__law_ask : FnScope N__law_ask ["_law_m", "_law_n"] (defScope s__law_ask) := ⟨rfl, rfl, rfl, by decide +kernel, rfl, by decide +kernel, by decide +kernel⟩
section
variable {P : Program} {w : World} {K : PySem.W.Frag} {mg : Str → Option Value} {base : Heap} {CT CH : Addr}
local macro_rules | `(tactic| walk_at "dl") => `(tactic| try simp only [↓x_neg, ↓x_lcS, ↓x_lockE, ↓x_eqA, ↓x_dictD, ↓x_disp, ↓x_pNil, ↓x_pCons, ↓x_forS, ↓x_diSL, ↓x_diKeys, ↓x_lock, ↓x_dictP, ↓x_fld, ↓x_fldS, ↓x_fldA, ↓x_meth, ↓x_make, ↓x_dget, ↓x_din, ↓x_dget1, ↓x_dget2, ↓x_dpop, ↓x_dput, ↓x_listD, ↓x_sortDI, ↓x_lenD, ↓x_isiC, x_icS, x_icI, x_icB, x_icN, x_ioS, x_ioI, x_ioB, x_ioN, ↓x_gSub, ↓x_sortDL, ↓x_eqO, ↓x_ninA, x_catN, x_isBB, x_isBN, x_isBI, x_isBS, x_isBR, ↓x_seq, ↓x_nx, ↓x_pass, ↓x_brk, ↓x_cnt, ↓x_drop, ↓x_ret, ↓x_retN, ↓x_ifS, ↓x_set, ↓x_asg, ↓x_gN, ↓x_gT, ↓x_gsC, ↓x_gsN, ↓x_var, x_rdv, ↓x_c, ↓x_op, ↓x_test, x_tst, ↓x_and, ↓x_or, ↓x_not, ↓x_andV, ↓x_orV, ↓x_notV, x_tstV, ↓x_ifE, x_true, x_false, ↓x_nil, ↓x_cons, ↓x_tup, ↓x_lst, ↓x_new, ↓x_newD, ↓x_call, ↓x_cb, x_oI, x_oIc, x_oS, x_addS, x_isN, x_notN, x_eqI, x_eqS, x_eqIS, x_eqSI, x_eqNS, x_neI, x_neS, x_neB, x_eqB, x_few, x_need, ↓x_ix, x_lenS, x_ixL0, x_ixT0, x_ixT1, x_ixT2, x_ixT3, x_ixT4, x_lenL, x_lenT, x_lenC, x_listL, x_listT, x_tupL, x_tupT, x_strI, x_strS, x_int1, x_intB, x_I1, x_I2, x_cat, x_catT, ↓x_split, ↓x_for, ↓x_cut, ↓x_lc, ↓x_whl, ↓x_diL, ↓x_diT, ↓x_diS, x_itL, x_itC, x_itT, x_itS, ↓x_diR1, ↓x_diR2, ↓x_diE, x_enmL, x_enmC, ↓x_gcN, ↓x_gcT, ↓x_yes, ↓x_ml, ↓x_ms, x_strq, x_ss, x_ssc, x_ssi, ↓x_join, ↓x_aug, x_st2I, ↓x_sl, ↓x_noP, ↓x_part, x_intq, x_slL, x_slC, x_slS, ↓x_in, x_inT, x_inL, x_ninT, x_ninL, x_inN, x_inSS, x_inSI, x_inIS, x_inII, ↓x_sg, x_sgS, x_nsgS, ↓x_eqD, ↓x_inDD, x_mulS, ↓x_isi, x_isiS, x_isiI, x_isiB, x_isiN, x_isiL, x_isiT, ↓x_isTT, x_itI, x_itStr, x_itN, x_itB, x_itLst, x_itTup, ↓x_any, ↓x_all, ↓x_sum, ↓x_srtI, ↓x_srtS, ↓x_intS, ↓x_lenRf, ↓x_tupRf, ↓x_frz', x_flS, x_flI, x_flN, x_flB, x_cs_bool, x_isB_NoneType_bool, x_isB_bool_bool, x_isB_int_bool, x_isB_str_bool, x_isB_list_bool, x_isB_tuple_bool, x_isB_dict_bool, x_cs_int, x_isB_NoneType_int, x_isB_bool_int, x_isB_int_int, x_isB_str_int, x_isB_list_int, x_isB_tuple_int, x_isB_dict_int, x_cs_str, x_isB_NoneType_str, x_isB_bool_str, x_isB_int_str, x_isB_str_str, x_isB_list_str, x_isB_tuple_str, x_isB_dict_str, x_cs_list, x_isB_NoneType_list, x_isB_bool_list, x_isB_int_list, x_isB_str_list, x_isB_list_list, x_isB_tuple_list, x_isB_dict_list, x_cs_tuple, x_isB_NoneType_tuple, x_isB_bool_tuple, x_isB_int_tuple, x_isB_str_tuple, x_isB_list_tuple, x_isB_tuple_tuple, x_isB_dict_tuple, x_cs_dict, x_isB_NoneType_dict, x_isB_bool_dict, x_isB_int_dict, x_isB_str_dict, x_isB_list_dict, x_isB_tuple_dict, x_isB_dict_dict, List.all_cons, List.all_nil, Bool.and_self, Bool.or_false, Bool.or_true, Bool.false_or, Bool.true_or, wipeD, setD, DL.isNon, List.set_cons_zero, List.set_cons_succ, List.getElem?_cons_zero, List.getElem?_cons_succ, List.length_cons, List.length_nil, Nat.zero_add, List.cons_append, List.nil_append, decide_true, decide_false, Bool.not_true, Bool.not_false, true_and, and_true, startD, List.map_cons, List.map_nil, Nat.reduceSub, Nat.reduceLeDiff, Nat.zero_le, Int.reduceLT, Int.reduceLE, and_self, Nat.reduceAdd, List.replicate])
/-! == with a thing's name -/
theorem any_t (n : Nat) : (D.tup [.str (Str.ofString "t"), .int (n : Int)]).any = true := by
  simp only [D.any, anyL]
  decide +kernel
theorem deep_t (n : Nat) : (D.tup [.str (Str.ofString "t"), .int (n : Int)]).deep = 1 := rfl
theorem vM_any {m : Nat} {v : Vl} (h : VOk m v) : (vM v).any = true := by
  cases v with
  | th n => exact any_t n
  | no d =>
    have hn : NoTh d := h
    cases hn with
    | str s hs => exact hs
    | _ => rfl
theorem vM_deep {m : Nat} {v : Vl} (h : VOk m v) : (vM v).deep ≤ 1 := by
  cases v with
  | th n => exact Nat.le_refl _
  | no d =>
    have hn : NoTh d := h
    cases hn <;> exact Nat.zero_le _
theorem vM_res {m : Nat} {v : Vl} {S : Sto} (h : VOk m v) : res S (vM v) = vM v := by
  cases v with
  | th n => rfl
  | no d =>
    have hn : NoTh d := h
    cases hn <;> rfl
theorem vM_eqv {m n : Nat} {v : Vl} (h : VOk m v) : PyData.eqv (vM v).py (D.tup [.str (Str.ofString "t"), .int (n : Int)]).py = v.is n := by
  cases v with
  | th j =>
    show PyData.eqv (D.tup [.str (Str.ofString "t"), .int (j : Int)]).py _ = decide (j = n)
    rw [D.py, D.py, PyData.eqv]
    simp only [pyL, PyData.eqvAll, D.py]
    rw [Bool.eq_iff_iff]
    simp [PyData.eqv]
    omega
  | no d =>
    have hn : NoTh d := h
    show PyData.eqv d.py _ = false
    cases hn <;> simp [D.py, pyL, PyData.eqv]
/-- a statement over a dict that is locked by it, or was before -/
def dLockO (d : DS) : DS := fun E δ S => dLock d E δ S ∨ d E δ S
theorem ds_lockO {X : Cx} {W : WXD} {st : Stmt} {d : DS} (h : PS X st (lS K W d)) : PS X st (lS K W (dLockO d)) := ⟨fun pins s σ H D I ⟨B, δ, S, E, sl, r, q, l⟩ => q.elim (fun q => (ds_lock h).run pins s σ H D I ⟨B, δ, S, E, sl, r, q, l⟩) fun q => h.run pins s σ H D I ⟨B, δ, S, E, sl, r, q, l⟩⟩
/-- the law's own, its parts locked or not -/
def MRepL (M : ML → Addr) (x : Mx) (s : Hs) (S : Sto) : Prop := MRep M x s S ∨ ∃ S0 od xs, MRep M x s S0 ∧ S = put S0 (M .parts) (.lck od xs (plD M s.there))
/-- the law's count -/
def dCount : SpD := fun ds S k _ => ∃ (M : ML → Addr) (x : Mx) (s : Hs) (n : Nat), ds = [.ref (M .m), .int (n : Int)] ∧ MRepL M x s S ∧ Wf s ∧ k (.int (cntF s n : Nat)) S
theorem nD_ints (l : List Nat) : nD l = (l.map fun n : Nat => (n : Int)).map D.int := by unfold nD; rw [List.map_map]; rfl
theorem count_cast (l : List Nat) (n : Nat) : (l.map fun n : Nat => (n : Int)).count (n : Int) = l.count n := by
  induction l with
  | nil => rfl
  | cons a l ih =>
    rw [List.map_cons, List.count_cons, List.count_cons, ih]
    congr 1
    by_cases h : a = n
    · simp [h]
    · have : ¬ ((a : Int) = (n : Int)) := by omega
      simp [h, this]
/-- one sort of lists -/
theorem cntIn {S : Sto} {M : ML → Addr} {x : Mx} {s : Hs} {n : Nat} {l : List Nat} {ll : ML} {c : Nat} {E : DEnds} {z4 z5 z6 : Option D} {key : Str} {od : Obj} {xs : List (Key × V)} (W : Wf s) (hmm : S (M .m) = some (.dct (mKvs M x s.many (rowM M s.row) s.lasts))) (hk : gval (mKvs M x s.many (rowM M s.row) s.lasts) (.inr key) = some (.ref (M ll))) (hS : S (M ll) = some (.lck od xs (plD M l))) (hpl : ∀ k ∈ l, S (M (.pl k)) = some (.lst ((s.parts k).map pM)))
    (q : ∀ z4 z5 z6, E.nx [some (.ref (M .m)), some (.int (n : Int)), some (.int ((c + psum s.parts l n : Nat) : Int)), some (.str key), z4, z5, z6] S) :
    dForS (diKeys (dDGet (dVar 0) (dVar 3))) (gN 4) (dSet (dOp (oI fun i j => D.int (i + j)) (dVar 2) (dCB oLen (dCons (dLcS (diSL (dDGet (dDGet (dVar 0) (dVar 3)) (dVar 4))) (gcT [5, 6])
      (dTest (dOp (oEqA false) (dVar 6) (dTup (dCons (dC (D.str (Str.ofString "t"))) (dCons (dVar 1) dNil))))) (dC (D.int 1)) [5, 6]) dNil))) 2) E [some (.ref (M .m)), some (.int (n : Int)), some (.int (c : Int)), some (.str key), z4, z5, z6] S := by
  walk_at "dl"
  refine dgetOf hmm rfl hk ?_
  walk_at "dl"
  refine skOf hS ?_
  refine forSOf (fun j δ S' => S' = S ∧ ∃ z4 z5 z6, δ = [some (.ref (M .m)), some (.int (n : Int)), some (.int ((c + psum s.parts (l.take j) n : Nat) : Int)), some (.str key), z4, z5, z6]) ⟨rfl, _, _, _, rfl⟩ hS ?_ ?_
  · rintro j d δ S' hj _ ⟨rfl, z4, z5, z6, rfl⟩
    unfold plD at hj
    rw [List.map_map, List.getElem?_map] at hj
    obtain ⟨k, hkj, rfl⟩ := Option.map_eq_some_iff.mp hj
    have hkl := List.mem_of_getElem? hkj
    have hpk := hpl k hkl
    have et : psum s.parts (l.take (j + 1)) n = psum s.parts (l.take j) n + pcnt (s.parts k) n := by
      rw [List.take_add_one, hkj, psum_app]
      rfl
    walk_at "dl"
    refine dgetOf hmm rfl hk ?_
    walk_at "dl"
    refine dgetOfR (.inr ⟨od, xs, hS⟩) rfl (plD_get hkl) ?_
    walk_at "dl"
    refine slOf hpk ?_
    refine lcSOf (fun i acc => acc.length = pcnt ((s.parts k).take i) n) (by rw [List.length_map]; have := W.plen k; omega) (fun p acc hp => by rw [put_ne (sto_ne hpk hp)]; exact hpk) rfl ?_ ?_
    · rintro p hp i d acc hi hacc
      rw [List.getElem?_map] at hi
      obtain ⟨kv, hkv, rfl⟩ := Option.map_eq_some_iff.mp hi
      have hvo := W.pv k kv (List.mem_of_getElem? hkv)
      have ec : pcnt ((s.parts k).take (i + 1)) n = pcnt ((s.parts k).take i) n + one kv.2 n := by
        unfold pcnt
        rw [List.take_add_one, hkv, List.countP_append]
        show _ + [kv].countP _ = _
        rw [List.countP_singleton]
        rfl
      show gcT [5, 6] (.tup [dK kv.1, vM kv.2]) _ _
      walk_at "dl"
      refine eqAOf (v := .tup [.str (Str.ofString "t"), .int (n : Int)]) (vM_res hvo) rfl (vM_any hvo) (any_t n) (by rw [deep_t]; have := vM_deep hvo; omega) (vM_eqv hvo) ?_
      walk_at "dl"
      refine br (fun hb => ?_) (fun hb => ?_)
      · walk_at "dl"
        refine LcO.of hp ?_
        rw [List.length_append, ec, hacc]
        unfold one
        rw [if_pos hb]
        rfl
      · walk_at "dl"
        refine LcO.of hp ?_
        rw [ec, hacc]
        unfold one
        rw [hb]
        rfl
    · intro acc hacc
      rw [List.length_map, List.take_length] at hacc
      walk_at "dl"
      rw [hacc, show (((c + psum s.parts (l.take j) n : Nat) : Int) + ((pcnt (s.parts k) n : Nat) : Int)) = ((c + psum s.parts (l.take (j + 1)) n : Nat) : Int) by rw [et]; omega]
      exact ⟨hS, _, _, _, rfl⟩
  · rintro δ S' _ ⟨rfl, z4, z5, z6, rfl⟩
    have : (List.map (fun kv => dK kv.1) (plD M l)).length = l.length := by unfold plD; rw [List.length_map, List.length_map]
    rw [this, List.take_length]
    exact q _ _ _
def cntUp (s : Hs) (n : Nat) : Nat → Nat
  | 0 => s.outer.count n
  | 1 => s.outer.count n + psum s.parts s.there n
  | _ => s.outer.count n + psum s.parts s.there n + psum s.parts s.rest n
theorem cntOne {S : Sto} {M : ML → Addr} {x : Mx} {s : Hs} {n : Nat} {l : List Nat} {ll : ML} {c : Nat} {E : DEnds} {z4 z5 z6 : Option D} {key : Str} (W : Wf s) (hmm : S (M .m) = some (.dct (mKvs M x s.many (rowM M s.row) s.lasts))) (hk : gval (mKvs M x s.many (rowM M s.row) s.lasts) (.inr key) = some (.ref (M ll))) (hS : S (M ll) = some (.dct (plD M l)) ∨ ∃ od xs, S (M ll) = some (.lck od xs (plD M l))) (hpl : ∀ k ∈ l, S (M (.pl k)) = some (.lst ((s.parts k).map pM)))
    (q : ∀ z4 z5 z6, E.nx [some (.ref (M .m)), some (.int (n : Int)), some (.int ((c + psum s.parts l n : Nat) : Int)), some (.str key), z4, z5, z6] S) :
    dLockO (dForS (diKeys (dDGet (dVar 0) (dVar 3))) (gN 4) (dSet (dOp (oI fun i j => D.int (i + j)) (dVar 2) (dCB oLen (dCons (dLcS (diSL (dDGet (dDGet (dVar 0) (dVar 3)) (dVar 4))) (gcT [5, 6])
      (dTest (dOp (oEqA false) (dVar 6) (dTup (dCons (dC (D.str (Str.ofString "t"))) (dCons (dVar 1) dNil))))) (dC (D.int 1)) [5, 6]) dNil))) 2)) E [some (.ref (M .m)), some (.int (n : Int)), some (.int (c : Int)), some (.str key), z4, z5, z6] S := by
  rcases hS with hS | ⟨od, xs, hS⟩
  · refine .inl ⟨M ll, plD M l, hS, fun od xs => ?_⟩
    have h1 : M .m ≠ M ll := fun z => by
      rw [z, hS] at hmm
      have h2 : plD M l = mKvs M x s.many (rowM M s.row) s.lasts := by injection hmm with hmm; injection hmm
      rw [← h2] at hk
      unfold gval plD at hk
      obtain ⟨kv, h3, _⟩ := Option.map_eq_some_iff.mp hk
      have h4 := List.find?_some h3
      obtain ⟨i, _, rfl⟩ := List.mem_map.mp (List.mem_of_find?_eq_some h3)
      have h5 := of_decide_eq_true h4
      cases h5
    refine cntIn W (by rw [put_ne h1]; exact hmm) hk put_same (fun k hkl => ?_) fun z4 z5 z6 => ⟨put_same, ?_⟩
    · rw [put_ne (fun z => by have := hpl k hkl; rw [z, hS] at this; cases this)]; exact hpl k hkl
    · rw [put_put, put_self hS]; exact q _ _ _
  · exact .inr (cntIn W hmm hk hS hpl q)
theorem ok_count {fa : Addr} {fd : FuncData} (F : Fun K "_law_count" "_law_count" s__law_count fa fd) (T : Txt K mg CT CH) : FnOk P w K mg base CX0 1 fa fd ["_law_m", "_law_n"] (lSp K dCount) := by
  refine dok F sc__law_count (fun ds S q qx ⟨M, x, s, n, e, _⟩ => by rw [e]; rfl) ⟨_, fun cdv A outer s H E hr => dss_cons (ds_set (i := 2) sc__law_count.nd rfl (Or.inl rfl) (de_ml PySem.F.slot_list_count PySem.F.type_list_count (mtCnt (K := K)) si_cnt (de_dget (hu_of hr) (de_var 0) (de_str) (fun _ _ => rfl)) (da_cons (de_var 1) da_nil)))
      (dss_cons (ds_for PassesOwn.never rfl (di_list (K := K) (de_lst (da_cons (de_str) (da_cons (de_str) da_nil)))) (dg_name (i := 3) sc__law_count.nd rfl (Or.inl rfl))
        (dss_one (ds_lockO (ds_forS PassesOwn.never rfl (di_keys (de_dget (hu_of hr) (de_var 0) (de_var 3) (fun _ _ => rfl))) (dg_name (i := 4) sc__law_count.nd rfl (Or.inl rfl))
          (dss_one (ds_set (i := 2) sc__law_count.nd rfl (Or.inl rfl) (de_op op_add si_add (de_var 2) (de_callB call_len (si_len rfl) (by rfl) T.len (by decide +kernel) (da_cons (de_lcS (own := [("_law_key_here", 5), ("_law_value_here", 6)]) (gc_tup (js := [5, 6]) (by decide)) rfl sc__law_count.nd (di_stl (K := K) (de_dget (hu_of hr) (de_dget (hu_of hr) (de_var 0) (de_var 3) (fun _ _ => rfl)) (de_var 4) (fun _ _ => rfl))) (blkOk_by (N := N__law_count) (sc := defScope s__law_count) (by decide +kernel)) (fun _ _ _ _ _ => pg_tup rfl (pgs_cons (pg_name (i := 5) sc__law_count.nd rfl (Or.inl rfl)) (pgs_cons (pg_name (i := 6) sc__law_count.nd rfl (Or.inl rfl)) (pgs_nil)))) (fun _ _ _ _ _ => dts_one (dt_cmp (op_eqM (K := K) hr.units) (si_eqA false) (de_var 6) (de_tup (da_cons (de_str) (da_cons (de_var 1) da_nil))) (nomark _))) (fun _ _ _ _ _ => de_int)) da_nil)))))))))
      (dss_one (ds_ret (de_var 2)))), fun ds S q qx ⟨M, x, s, n, hd, RL, W, hq⟩ => ?_⟩
  subst hd
  have hm : S (M .m) = some (.dct (mKvs M x s.many (rowM M s.row) s.lasts)) := by
    rcases RL with R | ⟨S0, od, xs, R, rfl⟩
    · exact m_m R
    · rw [put_ne (R.ne (l := .m) (l' := .parts) nofun nofun nofun)]; exact m_m R
  have ho : S (M .outer) = some (.lst (nD s.outer)) := by
    rcases RL with R | ⟨S0, od, xs, R, rfl⟩
    · exact m_outer R
    · rw [put_ne (R.ne (l := .outer) (l' := .parts) nofun nofun nofun)]; exact m_outer R
  have hpa : S (M .parts) = some (.dct (plD M s.there)) ∨ ∃ od xs, S (M .parts) = some (.lck od xs (plD M s.there)) := by
    rcases RL with R | ⟨S0, od, xs, R, rfl⟩
    · exact .inl (m_parts R)
    · exact .inr ⟨od, xs, put_same⟩
  have hre : S (M .rest) = some (.dct (plD M s.rest)) := by
    rcases RL with R | ⟨S0, od, xs, R, rfl⟩
    · exact m_rest R
    · rw [put_ne (R.ne (l := .rest) (l' := .parts) nofun nofun nofun)]; exact m_rest R
  have hpl : ∀ k, k ∈ s.there ∨ k ∈ s.rest → S (M (.pl k)) = some (.lst ((s.parts k).map pM)) := fun k hk => by
    rcases RL with R | ⟨S0, od, xs, R, rfl⟩
    · exact m_pl R hk
    · rw [put_ne (R.ne (l := .pl k) (l' := .parts) (nn (pl_live hk)) nofun nofun)]; exact m_pl R hk
  walk_at "dl"
  refine dgetOf hm rfl mg_outer ?_
  walk_at "dl"
  rw [nD_ints] at ho
  refine needOf (isLOf ho) ?_
  walk_at "dl"
  refine cntOf ho ?_
  rw [count_cast]
  walk_at "dl"
  refine forOf (fun i δ S' => S' = S ∧ ∃ z3 z4 z5 z6, δ = [some (.ref (M .m)), some (.int (n : Int)), some (.int ((cntUp s n i : Nat) : Int)), z3, z4, z5, z6]) ⟨rfl, _, _, _, _, rfl⟩ ?_ ?_
  · rintro i d δ S' hi ⟨rfl, z3, z4, z5, z6, rfl⟩
    rcases i with _ | _ | i
    · cases hi
      walk_at "dl"
      exact cntOne (l := s.there) (ll := .parts) W hm mg_parts hpa (fun k hk => hpl k (.inl hk)) fun z4 z5 z6 => ⟨rfl, _, _, _, _, rfl⟩
    · cases hi
      walk_at "dl"
      exact cntOne (l := s.rest) (ll := .rest) W hm mg_rest (.inl hre) (fun k hk => hpl k (.inr hk)) fun z4 z5 z6 => ⟨rfl, _, _, _, _, rfl⟩
    · cases hi
  · rintro δ S' ⟨rfl, z3, z4, z5, z6, rfl⟩
    walk_at "dl"
    exact hq
end
end K

set_option Elab.async false
set_option linter.all false
set_option maxRecDepth 100000
namespace K
open PySem L2 Evl EX DL HM
section
variable {P : Program} {w : World} {K : PySem.W.Frag} {mg : Str → Option Value} {base : Heap} {CT CH : Addr}
local macro_rules | `(tactic| walk_at "dl") => `(tactic| try simp only [↓x_neg, ↓x_lcS, ↓x_lockE, ↓x_eqA, ↓x_dictD, ↓x_disp, ↓x_pNil, ↓x_pCons, ↓x_forS, ↓x_diSL, ↓x_diKeys, ↓x_lock, ↓x_dictP, ↓x_fld, ↓x_fldS, ↓x_fldA, ↓x_meth, ↓x_make, ↓x_dget, ↓x_din, ↓x_dget1, ↓x_dget2, ↓x_dpop, ↓x_dput, ↓x_listD, ↓x_sortDI, ↓x_lenD, ↓x_isiC, x_icS, x_icI, x_icB, x_icN, x_ioS, x_ioI, x_ioB, x_ioN, ↓x_gSub, ↓x_sortDL, ↓x_eqO, ↓x_ninA, x_catN, x_isBB, x_isBN, x_isBI, x_isBS, x_isBR, ↓x_seq, ↓x_nx, ↓x_pass, ↓x_brk, ↓x_cnt, ↓x_drop, ↓x_ret, ↓x_retN, ↓x_ifS, ↓x_set, ↓x_asg, ↓x_gN, ↓x_gT, ↓x_gsC, ↓x_gsN, ↓x_var, x_rdv, ↓x_c, ↓x_op, ↓x_test, x_tst, ↓x_and, ↓x_or, ↓x_not, ↓x_andV, ↓x_orV, ↓x_notV, x_tstV, ↓x_ifE, x_true, x_false, ↓x_nil, ↓x_cons, ↓x_tup, ↓x_lst, ↓x_new, ↓x_newD, ↓x_call, ↓x_cb, x_oI, x_oIc, x_oS, x_addS, x_isN, x_notN, x_eqI, x_eqS, x_eqIS, x_eqSI, x_eqNS, x_neI, x_neS, x_neB, x_eqB, x_few, x_need, ↓x_ix, x_lenS, x_ixL0, x_ixT0, x_ixT1, x_ixT2, x_ixT3, x_ixT4, x_lenL, x_lenT, x_lenC, x_listL, x_listT, x_tupL, x_tupT, x_strI, x_strS, x_int1, x_intB, x_I1, x_I2, x_cat, x_catT, ↓x_split, ↓x_for, ↓x_cut, ↓x_lc, ↓x_whl, ↓x_diL, ↓x_diT, ↓x_diS, x_itL, x_itC, x_itT, x_itS, ↓x_diR1, ↓x_diR2, ↓x_diE, x_enmL, x_enmC, ↓x_gcN, ↓x_gcT, ↓x_yes, ↓x_ml, ↓x_ms, x_strq, x_ss, x_ssc, x_ssi, ↓x_join, ↓x_aug, x_st2I, ↓x_sl, ↓x_noP, ↓x_part, x_intq, x_slL, x_slC, x_slS, ↓x_in, x_inT, x_inL, x_ninT, x_ninL, x_inN, x_inSS, x_inSI, x_inIS, x_inII, ↓x_sg, x_sgS, x_nsgS, ↓x_eqD, ↓x_inDD, x_mulS, ↓x_isi, x_isiS, x_isiI, x_isiB, x_isiN, x_isiL, x_isiT, ↓x_isTT, x_itI, x_itStr, x_itN, x_itB, x_itLst, x_itTup, ↓x_any, ↓x_all, ↓x_sum, ↓x_srtI, ↓x_srtS, ↓x_intS, ↓x_lenRf, ↓x_tupRf, ↓x_frz', x_flS, x_flI, x_flN, x_flB, x_cs_bool, x_isB_NoneType_bool, x_isB_bool_bool, x_isB_int_bool, x_isB_str_bool, x_isB_list_bool, x_isB_tuple_bool, x_isB_dict_bool, x_cs_int, x_isB_NoneType_int, x_isB_bool_int, x_isB_int_int, x_isB_str_int, x_isB_list_int, x_isB_tuple_int, x_isB_dict_int, x_cs_str, x_isB_NoneType_str, x_isB_bool_str, x_isB_int_str, x_isB_str_str, x_isB_list_str, x_isB_tuple_str, x_isB_dict_str, x_cs_list, x_isB_NoneType_list, x_isB_bool_list, x_isB_int_list, x_isB_str_list, x_isB_list_list, x_isB_tuple_list, x_isB_dict_list, x_cs_tuple, x_isB_NoneType_tuple, x_isB_bool_tuple, x_isB_int_tuple, x_isB_str_tuple, x_isB_list_tuple, x_isB_tuple_tuple, x_isB_dict_tuple, x_cs_dict, x_isB_NoneType_dict, x_isB_bool_dict, x_isB_int_dict, x_isB_str_dict, x_isB_list_dict, x_isB_tuple_dict, x_isB_dict_dict, List.all_cons, List.all_nil, Bool.and_self, Bool.or_false, Bool.or_true, Bool.false_or, Bool.true_or, wipeD, setD, DL.isNon, List.set_cons_zero, List.set_cons_succ, List.getElem?_cons_zero, List.getElem?_cons_succ, List.length_cons, List.length_nil, Nat.zero_add, List.cons_append, List.nil_append, decide_true, decide_false, Bool.not_true, Bool.not_false, true_and, and_true, startD, List.map_cons, List.map_nil, Nat.reduceSub, Nat.reduceLeDiff, Nat.zero_le, Int.reduceLT, Int.reduceLE, and_self, Nat.reduceAdd, List.replicate])
theorem inD_nats {n : Nat} {l : List Nat} : inD (.int (n : Int)) (nD l) = decide (n ∈ l) := by
  induction l with
  | nil => rw [show nD [] = [] from rfl, x_inN]; rfl
  | cons a l ih =>
    rw [show nD (a :: l) = .int (a : Int) :: nD l from rfl, x_inII, ih, Bool.eq_iff_iff]
    simp only [Bool.or_eq_true, decide_eq_true_eq, List.mem_cons]
    constructor
    · rintro (h | h)
      · exact .inl (by omega)
      · exact .inr h
    · rintro (h | h)
      · exact .inl (by omega)
      · exact .inr h
theorem flat_nats (l : List Nat) : (nD l).all flatD = true := by
  induction l with
  | nil => rfl
  | cons a l ih => rw [show nD (a :: l) = .int (a : Int) :: nD l from rfl, List.all_cons, ih]; rfl
theorem nD_snoc (l : List Nat) (n : Nat) : nD l ++ [.int (n : Int)] = nD (l ++ [n]) := by unfold nD; rw [List.map_append]; rfl
theorem nD_len (l : List Nat) : (nD l).length = l.length := by unfold nD; rw [List.length_map]
theorem waits_len {s : Hs} (w : Wf s) : s.waits.length ≤ 5000 := row_len (s := { s with row := some s.waits }) ⟨w.nd, w.tin, w.len, w.most, w.key, w.plen, w.pv, w.wnd, w.win, fun l h => by cases h; exact ⟨w.wnd, fun _ h => h⟩, w.pz, w.az, w.kok⟩ rfl
theorem isi_no {S : Sto} {k : DK} {d : D} (h : NoTh d) (q : k (.bl false) S) : stC oIsi [d, .ty "tuple"] S k ⟨⟩ := by
  cases h with
  | non => rw [x_isiN (by decide), x_isB_NoneType_tuple]; exact q
  | int i => rw [x_isiI (by decide), x_isB_int_tuple]; exact q
  | str s _ => rw [x_isiS (by decide), x_isB_str_tuple]; exact q
  | bl b => rw [x_isiB (by decide), x_isB_bool_tuple]; exact q
def dLoosedIn : SpD := fun ds S k _ => ∃ (M : ML → Addr) (x : Mx) (s : Hs) (v : Vl), ds = [.ref (M .m), vM v] ∧ MRep M x s S ∧ Wf s ∧ GoodP s v ∧ VOk s.many v ∧ s.row ≠ none ∧ ∀ S', MTr M x s S M x (s.loosed v) S' → k .non S'
theorem enqs_of {s : Hs} {n : Nat} (g : GoodP s (.th n)) : (s.dec n).enqs n = (decide ((cntF s n : Int) = 0) && decide (n ∈ s.there) && !decide (n ∈ s.waits)) := by
  unfold Hs.enqs
  have := g.dec.eq n
  rw [this]
  rfl
theorem ok_loosed_in {fa : Addr} {fd : FuncData} (F : Fun K "_law_loosed" "_law_loosed" s__law_loosed fa fd) (T : Txt K mg CT CH) (G__law_count : DefD P w K mg base 1 "_law_count" ["_law_m", "_law_n"] dCount) : FnOk P w K mg base CX0 2 fa fd ["_law_m", "_law_value_here"] (lSp K dLoosedIn) := by
  refine dok F sc__law_loosed (fun ds S q qx ⟨M, x, s, v, e, _⟩ => by rw [e]; rfl) ⟨_, fun cdv A outer s H E hr => dss_cons (ds_if (PW.pt (dw_or (dt_not (dt_val (de_callB (clIsi' (K := K)) si_isi (by rfl) T.isinstance (by decide +kernel) (da_cons (de_var 1) (da_cons (de_blt (n := "tuple") (by rfl) T.tuple (by decide +kernel)) da_nil))))) (dw_or (dt_dinN (hu_of hr) (de_ix ix_seq (si_ix rfl) (de_var 1) (de_int) (fun _ _ => rfl)) (de_dget (hu_of hr) (de_var 0) (de_str) (fun _ _ => rfl))) (dw_or1 (dt_cmp (opIn (K := K)) (si_in false) (de_ix ix_seq (si_ix rfl) (de_var 1) (de_int) (fun _ _ => rfl)) (de_dget (hu_of hr) (de_var 0) (de_str) (fun _ _ => rfl)) (by rfl))))))
        (dss_one (ds_retN))
        (dss_nil))
      (dss_one (ds_if (dt_cmp op_eq si_eq (de_call G__law_count (hr.mono (by omega)) (by rfl) (da_cons (de_var 0) (da_cons (de_ix ix_seq (si_ix rfl) (de_var 1) (de_int) (fun _ _ => rfl)) da_nil))) (de_int) (nomark _))
        (dss_cons (ds_expr (de_ml PySem.F.slot_list_append PySem.F.type_list_append mt_append si_app (de_dget (hu_of hr) (de_var 0) (de_str) (fun _ _ => rfl)) (da_cons (de_ix ix_seq (si_ix rfl) (de_var 1) (de_int) (fun _ _ => rfl)) da_nil)))
        (dss_one (ds_if (dt_cmp op_isN si_isN (de_dget (hu_of hr) (de_var 0) (de_str) (fun _ _ => rfl)) (de_non) (nomark _))
          (dss_cons (ds_dput (hu_of hr) (de_var 0) (de_str) (de_new (da_cons (de_ix ix_seq (si_ix rfl) (de_var 1) (de_int) (fun _ _ => rfl)) da_nil)))
          (dss_one (ds_never)))
          (dss_one (ds_expr (de_ml PySem.F.slot_list_append PySem.F.type_list_append mt_append si_app (de_dget (hu_of hr) (de_var 0) (de_str) (fun _ _ => rfl)) (da_cons (de_ix ix_seq (si_ix rfl) (de_var 1) (de_int) (fun _ _ => rfl)) da_nil)))))))
        (dss_nil))), fun ds S q qx ⟨M, x, s, v, hd, R, W, G, hv, hr, hq⟩ => ?_⟩
  subst hd
  cases v with
  | no d =>
    walk_at "dl"
    simp only [vM]
    refine isi_no hv ?_
    walk_at "dl"
    exact hq _ (MTr.refl R)
  | th n =>
    walk_at "dl"
    simp only [vM]
    walk_at "dl"
    refine dgetOf (m_m R) rfl mg_parts ?_
    walk_at "dl"
    refine dninOf (m_parts R) rfl ?_
    rw [plD_isSome]
    rw [loosed_th, enqs_of G] at hq
    by_cases ht : n ∈ s.there
    rotate_left
    · rw [decide_eq_false ht]
      walk_at "dl"
      rw [decide_eq_false ht, if_neg (by simp)] at hq
      exact hq _ (MTr.ghost R rfl)
    rw [decide_eq_true ht]
    walk_at "dl"
    refine dgetOf (m_m R) rfl mg_waits ?_
    walk_at "dl"
    rw [x_inR (m_waits R) rfl (flat_nats _), inD_nats]
    walk_at "dl"
    by_cases hw : n ∈ s.waits
    · rw [decide_eq_true hw]
      walk_at "dl"
      rw [decide_eq_true hw, if_neg (by simp)] at hq
      exact hq _ (MTr.ghost R rfl)
    rw [decide_eq_false hw]
    walk_at "dl"
    refine ⟨M, x, s, n, rfl, .inl R, W, ?_⟩
    walk_at "dl"
    by_cases hc : ((cntF s n : Nat) : Int) = 0
    rotate_left
    · rw [decide_eq_false hc]
      walk_at "dl"
      rw [decide_eq_false hc, if_neg (by simp)] at hq
      exact hq _ (MTr.ghost R rfl)
    rw [decide_eq_true hc]
    rw [decide_eq_true hc, decide_eq_true ht, decide_eq_false hw, if_pos (by rfl)] at hq
    walk_at "dl"
    refine dgetOf (m_m R) rfl mg_waits ?_
    walk_at "dl"
    refine needOf (isLOf (m_waits R)) ?_
    walk_at "dl"
    refine appOf (m_waits R) (by rw [nD_len]; have := waits_len W; omega) ?_
    rw [nD_snoc]
    have T1 := MTr.waits R (s.waits ++ [n])
    obtain ⟨l, hl⟩ : ∃ l, s.row = some l := Option.ne_none_iff_exists'.mp hr
    have hm1 := m_m T1.rep
    dsimp only at hm1
    rw [hl] at hm1
    have hr1 := m_row T1.rep (l := l) hl
    walk_at "dl"
    refine dgetOf hm1 rfl mg_row ?_
    simp only [rowM]
    walk_at "dl"
    refine dgetOf hm1 rfl mg_row ?_
    simp only [rowM]
    walk_at "dl"
    refine needOf (isLOf hr1) ?_
    walk_at "dl"
    refine appOf hr1 (by rw [nD_len]; have := row_len W hl; omega) ?_
    rw [nD_snoc]
    have T2 := MTr.setRow T1.rep (l0 := l) hl (l ++ [n])
    refine hq _ (MTr.trans (MTr.trans T1 T2) (MTr.ghost T2.rep ?_))
    show mC M x ((s.dec n).enq n) = mC M x { s with waits := s.waits ++ [n], row := some (l ++ [n]) }
    unfold Hs.enq Hs.dec
    dsimp only
    rw [hl]
    rfl
def dLeft : SpD := fun ds S k _ => ∃ (M : ML → Addr) (x : Mx) (s : Hs) (n : Nat), ds = [.ref (M .m), .int (n : Int)] ∧ MRep M x s S ∧ Wf s ∧ Good s ∧ n ∈ s.there ∧ ∀ S', MTr M x s S M x (s.gone n) S' → k .non S'
theorem ok_left {fa : Addr} {fd : FuncData} (F : Fun K "_law_left" "_law_left" s__law_left fa fd) (T : Txt K mg CT CH) : FnOk P w K mg base CX0 1 fa fd ["_law_m", "_law_n"] (lSp K dLeft) := by
  refine dok F sc__law_left (fun ds S q qx ⟨M, x, s, n, e, _⟩ => by rw [e]; rfl) ⟨_, fun cdv A outer s H E hr => dss_cons (ds_expr (de_ml PySem.F.slot_list_append PySem.F.type_list_append mt_append si_app (de_dget (hu_of hr) (de_var 0) (de_str) (fun _ _ => rfl)) (da_cons (de_var 1) da_nil)))
      (dss_one (ds_dput (hu_of hr) (de_dget (hu_of hr) (de_var 0) (de_str) (fun _ _ => rfl)) (de_var 1) (de_dpop (de_dget (hu_of hr) (de_var 0) (de_str) (fun _ _ => rfl)) (de_var 1)))), fun ds S q qx ⟨M, x, s, n, hd, R, W, G, ht, hq⟩ => ?_⟩
  subst hd
  walk_at "dl"
  refine dgetOf (m_m R) rfl mg_left ?_
  walk_at "dl"
  refine needOf (isLOf (m_left R)) ?_
  walk_at "dl"
  refine appOf (m_left R) (by rw [nD_len]; have := W.len; have := W.most; omega) ?_
  rw [nD_snoc]
  have T1 := MTr.left R (s.left ++ [n])
  have hrn : n ∉ s.rest := fun z => G.rt n z ht
  walk_at "dl"
  refine dgetOf (m_m T1.rep) rfl mg_parts (isDOf (m_parts T1.rep) ?_)
  walk_at "dl"
  refine dpopOf (m_parts T1.rep) rfl (plD_get ht) ?_
  rw [plD_drop]
  have nmp : M .m ≠ M .parts := R.ne nofun nofun nofun
  have nrp : M .rest ≠ M .parts := R.ne nofun nofun nofun
  walk_at "dl"
  refine dgetOf (by rw [put_ne nmp]; exact m_m T1.rep) rfl mg_rest ?_
  walk_at "dl"
  refine dputOf (kvs := plD M s.rest) (by rw [put_ne nrp]; have := m_rest T1.rep; exact this) rfl ?_ ?_
  · unfold plD
    rw [List.length_map]
    have := row_len (s := { s with waits := s.rest, row := some s.rest }) ⟨W.nd, W.tin, W.len, W.most, W.key, W.plen, W.pv, G.rnd, G.rin, fun l h => by cases h; exact ⟨G.rnd, fun _ h => h⟩, W.pz, W.az, W.kok⟩ rfl
    omega
  rw [gput_new (plD_new hrn), ← plD_snoc]
  exact hq _ (MTr.trans T1 (MTr.gone T1.rep ht))
def dEmptied : SpD := fun ds S k _ => ∃ (M : ML → Addr) (x : Mx) (s : Hs) (n : Nat), ds = [.ref (M .m), .int (n : Int)] ∧ MRep M x s S ∧ Wf s ∧ Good s ∧ n ∈ s.rest ∧ s.row ≠ none ∧ ∀ S', MTr M x s S M x ((s.emptied n (s.parts n)).bare n) S' → k .non S'
theorem pairs_any {s : Hs} (W : Wf s) (n : Nat) : (D.list ((s.parts n).map pM)).any = true := by
  rw [D.any]
  have : ∀ l : List (Key × Vl), (∀ kv ∈ l, (dK kv.1).any = true ∧ VOk s.many kv.2) → anyL (l.map pM) = true := by
    intro l
    induction l with
    | nil => intro _; rfl
    | cons kv l ih =>
      intro h
      obtain ⟨h1, h2⟩ := h kv (List.mem_cons_self ..)
      rw [List.map_cons, anyL, ih fun x hx => h x (List.mem_cons_of_mem _ hx), Bool.and_true]
      show (D.tup [dK kv.1, vM kv.2]).any = true
      simp only [D.any, anyL, h1, vM_any h2, Bool.and_self]
  exact this _ fun kv hk => ⟨W.kok n kv hk, W.pv n kv hk⟩
theorem eqv_nil {a : D} {l : List D} : PyData.eqv (D.list (a :: l)).py (D.list []).py = false := by simp [D.py, pyL, PyData.eqv, PyData.eqvAll]
theorem ok_emptied {fa : Addr} {fd : FuncData} (F : Fun K "_law_emptied" "_law_emptied" s__law_emptied fa fd) (T : Txt K mg CT CH) (G__law_loosed : DefD P w K mg base 2 "_law_loosed" ["_law_m", "_law_value_here"] dLoosedIn) : FnOk P w K mg base CX0 3 fa fd ["_law_m", "_law_n"] (lSp K dEmptied) := by
  refine dok F sc__law_emptied (fun ds S q qx ⟨M, x, s, n, e, _⟩ => by rw [e]; rfl) ⟨_, fun cdv A outer s H E hr => dss_cons (ds_while PassesOwn.never (dt_cmp (op_neM (K := K) hr.units) (si_eqA true) (de_dget (hu_of hr) (de_dget (hu_of hr) (de_var 0) (de_str) (fun _ _ => rfl)) (de_var 1) (fun _ _ => rfl)) (de_lst (da_nil)) (nomark _))
        (dss_cons (ds_asg (de_ml PySem.F.slot_list_pop PySem.F.type_list_pop mt_popAt si_pop0 (de_dget (hu_of hr) (de_dget (hu_of hr) (de_var 0) (de_str) (fun _ _ => rfl)) (de_var 1) (fun _ _ => rfl)) (da_cons (de_int) da_nil)) (dg_tup (n := 2) rfl (dgs_cons (dg_name (i := 2) sc__law_emptied.nd rfl (Or.inl rfl)) (dgs_cons (dg_name (i := 3) sc__law_emptied.nd rfl (Or.inl rfl)) dgs_nil))))
        (dss_one (ds_expr (de_call G__law_loosed (hr.mono (by decide)) (by rfl) (da_cons (de_var 0) (da_cons (de_var 3) da_nil)))))))
      (dss_one (ds_expr (de_dpop (de_dget (hu_of hr) (de_var 0) (de_str) (fun _ _ => rfl)) (de_var 1)))), fun ds S q qx ⟨M, x, s, n, hd, R, W, G, hn, hr, hq⟩ => ?_⟩
  subst hd
  walk_at "dl"
  refine whlOf (fun f δ S' => ∃ si z2 z3, f = (si.parts n).length ∧ δ = [some (.ref (M .m)), some (.int (n : Int)), z2, z3] ∧ MTr M x s S M x si S' ∧ Wf si ∧ Good si ∧ n ∈ si.rest ∧ si.row ≠ none ∧ si.emptied n (si.parts n) = s.emptied n (s.parts n)) _ ⟨s, _, _, rfl, rfl, MTr.refl R, W, G, hn, hr, rfl⟩ ?_
  rintro f δ S' ⟨si, z2, z3, rfl, rfl, T1, W1, G1, hn1, hr1, he⟩
  have hpl := m_pl T1.rep (n := n) (.inr hn1)
  walk_at "dl"
  refine dgetOf (m_m T1.rep) rfl mg_rest ?_
  walk_at "dl"
  refine dgetOf (m_rest T1.rep) rfl (plD_get hn1) ?_
  walk_at "dl"
  cases hp : si.parts n with
  | nil =>
    rw [hp] at hpl
    refine neASame (p' := .list []) (by simp only [res]; rw [hpl]; rfl) rfl rfl (by decide) ?_
    walk_at "dl"
    refine dgetOf (m_m T1.rep) rfl mg_rest (isDOf (m_rest T1.rep) ?_)
    walk_at "dl"
    refine dpopOf (m_rest T1.rep) rfl (plD_get hn1) ?_
    rw [plD_drop]
    refine hq _ ?_
    rw [← he, hp]
    exact MTr.trans T1 (MTr.bare T1.rep)
  | cons kv l =>
    have hany := pairs_any W1 n
    rw [hp] at hpl hany
    refine neAOf (u := .list ((kv :: l).map pM)) (v := .list []) (by simp only [res]; rw [hpl]) rfl hany rfl (Nat.le_trans (Nat.min_le_right _ _) (by decide)) eqv_nil ?_
    walk_at "dl"
    refine dgetOf (m_m T1.rep) rfl mg_rest ?_
    walk_at "dl"
    refine dgetOf (m_rest T1.rep) rfl (plD_get hn1) ?_
    walk_at "dl"
    refine needOf (isLOf hpl) ?_
    walk_at "dl"
    refine pop0Of hpl ?_
    have T2 := MTr.pl T1.rep (n := n) (.inr hn1) l si.cnt
    show gT 2 _ (.tup [dK kv.1, vM kv.2]) _ _ _
    walk_at "dl"
    refine ⟨M, x, _, kv.2, rfl, T2.rep, W1.part hp, G1.part W1 (.inr hn1) hp, W1.pv n kv (by rw [hp]; exact List.mem_cons_self ..), hr1, fun S3 T3 => ?_⟩
    refine ⟨l.length, by simp, _, _, _, ?_, rfl, MTr.trans (MTr.trans T1 T2) T3, (W1.part hp).loosed _, (G1.part W1 (.inr hn1) hp).loosed, by rw [loosed_rest]; exact hn1, fun z => ?_, ?_⟩
    · rw [loosed_parts]
      show l.length = (DL.fset si.parts n l n).length
      rw [DL.fset_same]
    · have := (loosed_row _ _).mp z
      exact hr1 this
    · rw [loosed_parts, ← he, hp]
      show Hs.emptied _ n (DL.fset si.parts n l n) = _
      rw [DL.fset_same]
      rfl
def dAskM (ask : AskR) (x : Mx) : SpD := fun ds S k _ => ∃ (M : ML → Addr) (s : Hs) (n : Nat) (s' : Hs), ds = [.ref (M .m), .int (n : Int)] ∧ MRep M x s S ∧ Wf s ∧ Good s ∧ n ∈ s.there ∧ ask s n s' ∧ ∀ M' S', MTr M x s S M' x s' S' → k .non S'
def dAskNo : SpD := fun ds S k _ => ∃ (M : ML → Addr) (x : Mx) (s : Hs) (n : Nat), ds = [.ref (M .m), .int (n : Int)] ∧ MRep M x s S ∧ x.ender = false ∧ k .non S
theorem ok_askm_no {fa : Addr} {fd : FuncData} (F : Fun K "_law_ask" "_law_ask" s__law_ask fa fd) (T : Txt K mg CT CH) : FnOk P w K mg base CX0 1 fa fd ["_law_m", "_law_n"] (lSp K dAskNo) := by
  refine dok F sc__law_ask (fun ds S q qx ⟨M, x, s, n, e, _⟩ => by rw [e]; rfl) ⟨_, fun cdv A outer s H E hr => dss_cons (ds_if (PW.pt (dw_or (dt_not (dt_val (de_dget (hu_of hr) (de_var 0) (de_str) (fun _ _ => rfl)))) (dw_or1 (dt_cmp (opIn (K := K)) (si_in false) (de_var 1) (de_dget (hu_of hr) (de_var 0) (de_str) (fun _ _ => rfl)) (by rfl)))))
        (dss_one (ds_retN))
        (dss_nil))
      (dss_cons (ds_expr (de_ml PySem.F.slot_list_append PySem.F.type_list_append mt_append si_app (de_dget (hu_of hr) (de_var 0) (de_str) (fun _ _ => rfl)) (da_cons (de_var 1) da_nil)))
      (dss_cons (ds_set (i := 2) sc__law_ask.nd rfl (Or.inl rfl) (de_dget (hu_of hr) (de_var 0) (de_str) (fun _ _ => rfl)))
      (dss_cons (ds_dput (hu_of hr) (de_var 0) (de_str) (de_non))
      (dss_cons (ds_dput (hu_of hr) (de_var 0) (de_str) (de_op op_add si_add (de_dget (hu_of hr) (de_var 0) (de_str) (fun _ _ => rfl)) (de_int)))
      (dss_cons (ds_for PassesOwn.never rfl (di_list (K := K) (de_dgets2 (hu_of hr) (de_dget (hu_of hr) (de_var 0) (de_str) (fun _ _ => rfl)) (de_var 1) (de_lst (da_nil)))) (dg_name (i := 3) sc__law_ask.nd rfl (Or.inl rfl))
        (dss_one (ds_never)))
      (dss_cons (ds_dput (hu_of hr) (de_var 0) (de_str) (de_op op_sub si_sub (de_dget (hu_of hr) (de_var 0) (de_str) (fun _ _ => rfl)) (de_int)))
      (dss_one (ds_dput (hu_of hr) (de_var 0) (de_str) (de_var 2))))))))), fun ds S q qx ⟨M, x, s, n, hd, R, hx, hq⟩ => ?_⟩
  subst hd
  walk_at "dl"
  refine dgetOf (m_m R) rfl mg_ender ?_
  rw [hx]
  walk_at "dl"
  exact hq
end
end K

set_option Elab.async false
set_option linter.all false
set_option maxRecDepth 100000
namespace HM
open PySem L2 DL
/-- lasts keep what is counted -/
structure AskGood (ask : AskR) : Prop where
  ok : AskOk ask
  good : ∀ {s n s'}, ask s n s' → Wf s → Good s → n ∈ s.there → Good s'
  out : ∀ {s n s'}, ask s n s' → n ∈ s.outer → n ∈ s'.outer
theorem askNo_good : AskGood askNo := ⟨askNo_ok, fun h _ g _ => h ▸ g, fun h i => h ▸ i⟩
section
variable {ask : AskR} (K : AskGood ask) {s s' : Hs} {n : Nat}
include K
theorem Turn.good (t : Turn ask s n s') (w : Wf s) (g : Good s) (h : ∀ l, s.row = some l → n ∉ l) : Good s' := by
  cases t with
  | pass _ => exact g.unwait
  | stay h1 h2 h3 =>
    rename_i s1
    have hn : n ∈ s.there := Classical.not_not.mp fun z => h1 (.inr z)
    have hb := w.tin n hn
    have g1 : Good ((s.unwait n).up n) := (Good.unwait g).up hb.2
    exact (K.good h2 ((w.unwait h).up n) g1 hn).down (K.out h2 (List.mem_append_right _ (List.mem_singleton.mpr rfl)))
  | go h1 h2 h3 =>
    rename_i s1
    have hn : n ∈ s.there := Classical.not_not.mp fun z => h1 (.inr z)
    have hb := w.tin n hn
    have g1 : Good ((s.unwait n).up n) := (Good.unwait g).up hb.2
    have g2 := (K.good h2 ((w.unwait h).up n) g1 hn).down (K.out h2 (List.mem_append_right _ (List.mem_singleton.mpr rfl)))
    have w2 := (K.ok.wf h2 ((w.unwait h).up n) hn).down n
    have hs := K.ok.stay h2 hn
    obtain ⟨a, b, c, d⟩ := (g2.gone w2 hs).emptied (n := n) (w2.gone hs) (List.mem_append_right _ (List.mem_singleton.mpr rfl)) rfl
    exact a.bare b
theorem Work.good {f : Nat} (t : Work ask f s s') (w : Wf s) (g : Good s) : Good s' := by
  induction t with
  | done h => exact ⟨g.cnt, g.rnd, g.rt, g.rin, g.oin⟩
  | step h1 h2 h3 ih =>
    obtain ⟨w1, w2, _⟩ := w.rowTail h1
    exact ih (h2.wf K.ok w1 fun l hl => by cases hl; exact w2).1 (h2.good K w1 ⟨g.cnt, g.rnd, g.rt, g.rin, g.oin⟩ fun l hl => by cases hl; exact w2)
theorem Loose.good {v : Vl} (t : Loose ask s v s') (w : Wf s) (g : GoodP s v) : Good s' := by
  have gl := g.loosed
  cases t with
  | no => exact ⟨g.cnt, g.rnd, g.rt, g.rin, g.oin⟩
  | kept h => rw [loosed_th, h, if_neg (by exact nofun)] at gl; exact gl
  | wait h _ => rw [loosed_th, if_pos h] at gl; exact gl
  | work h h1 h2 =>
    rename_i n f
    rw [loosed_th, if_pos h] at gl
    have w1 := (w.dec n).enq h
    exact h2.good K ⟨w1.nd, w1.tin, w1.len, w1.most, w1.key, w1.plen, w1.pv, w1.wnd, w1.win, fun l hl => by
      cases hl
      exact ⟨by simp, fun i hi => by rw [List.mem_singleton.mp hi]; exact List.mem_append_right _ (List.mem_singleton.mpr rfl)⟩, w1.pz, w1.az, w1.kok⟩ ⟨gl.cnt, gl.rnd, gl.rt, gl.rin, gl.oin⟩
end
end HM
namespace K
open PySem L2 Evl EX DL HM
section
variable {P : Program} {w : World} {K : PySem.W.Frag} {mg : Str → Option Value} {base : Heap} {CT CH : Addr}
local macro_rules | `(tactic| walk_at "dl") => `(tactic| try simp only [↓x_neg, ↓x_lcS, ↓x_lockE, ↓x_eqA, ↓x_dictD, ↓x_disp, ↓x_pNil, ↓x_pCons, ↓x_forS, ↓x_diSL, ↓x_diKeys, ↓x_lock, ↓x_dictP, ↓x_fld, ↓x_fldS, ↓x_fldA, ↓x_meth, ↓x_make, ↓x_dget, ↓x_din, ↓x_dget1, ↓x_dget2, ↓x_dpop, ↓x_dput, ↓x_listD, ↓x_sortDI, ↓x_lenD, ↓x_isiC, x_icS, x_icI, x_icB, x_icN, x_ioS, x_ioI, x_ioB, x_ioN, ↓x_gSub, ↓x_sortDL, ↓x_eqO, ↓x_ninA, x_catN, x_isBB, x_isBN, x_isBI, x_isBS, x_isBR, ↓x_seq, ↓x_nx, ↓x_pass, ↓x_brk, ↓x_cnt, ↓x_drop, ↓x_ret, ↓x_retN, ↓x_ifS, ↓x_set, ↓x_asg, ↓x_gN, ↓x_gT, ↓x_gsC, ↓x_gsN, ↓x_var, x_rdv, ↓x_c, ↓x_op, ↓x_test, x_tst, ↓x_and, ↓x_or, ↓x_not, ↓x_andV, ↓x_orV, ↓x_notV, x_tstV, ↓x_ifE, x_true, x_false, ↓x_nil, ↓x_cons, ↓x_tup, ↓x_lst, ↓x_new, ↓x_newD, ↓x_call, ↓x_cb, x_oI, x_oIc, x_oS, x_addS, x_isN, x_notN, x_eqI, x_eqS, x_eqIS, x_eqSI, x_eqNS, x_neI, x_neS, x_neB, x_eqB, x_few, x_need, ↓x_ix, x_lenS, x_ixL0, x_ixT0, x_ixT1, x_ixT2, x_ixT3, x_ixT4, x_lenL, x_lenT, x_lenC, x_listL, x_listT, x_tupL, x_tupT, x_strI, x_strS, x_int1, x_intB, x_I1, x_I2, x_cat, x_catT, ↓x_split, ↓x_for, ↓x_cut, ↓x_lc, ↓x_whl, ↓x_diL, ↓x_diT, ↓x_diS, x_itL, x_itC, x_itT, x_itS, ↓x_diR1, ↓x_diR2, ↓x_diE, x_enmL, x_enmC, ↓x_gcN, ↓x_gcT, ↓x_yes, ↓x_ml, ↓x_ms, x_strq, x_ss, x_ssc, x_ssi, ↓x_join, ↓x_aug, x_st2I, ↓x_sl, ↓x_noP, ↓x_part, x_intq, x_slL, x_slC, x_slS, ↓x_in, x_inT, x_inL, x_ninT, x_ninL, x_inN, x_inSS, x_inSI, x_inIS, x_inII, ↓x_sg, x_sgS, x_nsgS, ↓x_eqD, ↓x_inDD, x_mulS, ↓x_isi, x_isiS, x_isiI, x_isiB, x_isiN, x_isiL, x_isiT, ↓x_isTT, x_itI, x_itStr, x_itN, x_itB, x_itLst, x_itTup, ↓x_any, ↓x_all, ↓x_sum, ↓x_srtI, ↓x_srtS, ↓x_intS, ↓x_lenRf, ↓x_tupRf, ↓x_frz', x_flS, x_flI, x_flN, x_flB, x_cs_bool, x_isB_NoneType_bool, x_isB_bool_bool, x_isB_int_bool, x_isB_str_bool, x_isB_list_bool, x_isB_tuple_bool, x_isB_dict_bool, x_cs_int, x_isB_NoneType_int, x_isB_bool_int, x_isB_int_int, x_isB_str_int, x_isB_list_int, x_isB_tuple_int, x_isB_dict_int, x_cs_str, x_isB_NoneType_str, x_isB_bool_str, x_isB_int_str, x_isB_str_str, x_isB_list_str, x_isB_tuple_str, x_isB_dict_str, x_cs_list, x_isB_NoneType_list, x_isB_bool_list, x_isB_int_list, x_isB_str_list, x_isB_list_list, x_isB_tuple_list, x_isB_dict_list, x_cs_tuple, x_isB_NoneType_tuple, x_isB_bool_tuple, x_isB_int_tuple, x_isB_str_tuple, x_isB_list_tuple, x_isB_tuple_tuple, x_isB_dict_tuple, x_cs_dict, x_isB_NoneType_dict, x_isB_bool_dict, x_isB_int_dict, x_isB_str_dict, x_isB_list_dict, x_isB_tuple_dict, x_isB_dict_dict, List.all_cons, List.all_nil, Bool.and_self, Bool.or_false, Bool.or_true, Bool.false_or, Bool.true_or, wipeD, setD, DL.isNon, List.set_cons_zero, List.set_cons_succ, List.getElem?_cons_zero, List.getElem?_cons_succ, List.length_cons, List.length_nil, Nat.zero_add, List.cons_append, List.nil_append, decide_true, decide_false, Bool.not_true, Bool.not_false, true_and, and_true, startD, List.map_cons, List.map_nil, Nat.reduceSub, Nat.reduceLeDiff, Nat.zero_le, Int.reduceLT, Int.reduceLE, and_self, Nat.reduceAdd, List.replicate])
theorem erase_cast (l : List Nat) (n : Nat) : (l.map fun n : Nat => (n : Int)).erase (n : Int) = (l.erase n).map fun n : Nat => (n : Int) := by
  induction l with
  | nil => rfl
  | cons a l ih =>
    rw [List.map_cons, List.erase_cons, List.erase_cons]
    by_cases h : a = n
    · subst h
      simp
    · have : ¬ ((a : Int) = (n : Int)) := by omega
      rw [if_neg (by simpa using this), if_neg (by simpa using h), List.map_cons, ih]
theorem m_waits' {M : ML → Addr} {x : Mx} {s : Hs} {S : Sto} (R : MRep M x s S) : S (M .waits) = some (.lst ((s.waits.map fun n : Nat => (n : Int)).map D.int)) := by rw [m_waits R, nD_ints]
theorem m_outer' {M : ML → Addr} {x : Mx} {s : Hs} {S : Sto} (R : MRep M x s S) : S (M .outer) = some (.lst ((s.outer.map fun n : Nat => (n : Int)).map D.int)) := by rw [m_outer R, nD_ints]
theorem m_mine' {M : ML → Addr} {x : Mx} {s : Hs} {S : Sto} (R : MRep M x s S) : S (M .mine) = some (.lst ((s.mine.map fun n : Nat => (n : Int)).map D.int)) := by rw [m_mine R, nD_ints]
theorem mem_cast {l : List Nat} {n : Nat} (h : n ∈ l) : (n : Int) ∈ l.map fun n : Nat => (n : Int) := List.mem_map.mpr ⟨n, h, rfl⟩
theorem emptied_outer {n : Nat} : ∀ (l : List (Key × Vl)) (s : Hs), (s.emptied n l).outer = s.outer ∧ (s.emptied n l).asked = s.asked := by
  intro l
  induction l with
  | nil => intro s; exact ⟨rfl, rfl⟩
  | cons kv l ih =>
    intro s
    show ((({ s with parts := DL.fset s.parts n l } : Hs).loosed kv.2).emptied n l).outer = _ ∧ ((({ s with parts := DL.fset s.parts n l } : Hs).loosed kv.2).emptied n l).asked = _
    rw [(ih _).1, (ih _).2]
    cases kv.2 with
    | no d => exact ⟨rfl, rfl⟩
    | th j => rw [loosed_th]; split <;> exact ⟨rfl, rfl⟩
def dWorked (ask : AskR) (pot : List Nat → Nat) (x : Mx) : SpD := fun ds S k _ => ∃ (M : ML → Addr) (s : Hs) (f : Nat) (s' : Hs), ds = [.ref (M .m)] ∧ MRep M x s S ∧ Wf s ∧ Good s ∧ s.outer.length + pot s.asked ≤ 50000 ∧ Work ask f s s' ∧ ∀ M' S', MTr M x s S M' x s' S' → k .non S'
theorem nat_any (l : List Nat) : (D.list (nD l)).any = true := by
  rw [D.any]
  induction l with
  | nil => rfl
  | cons a l ih => rw [show nD (a :: l) = .int (a : Int) :: nD l from rfl, anyL, ih]; rfl
theorem ok_worked {La : Nat} {ask : AskR} (KA : AskGood ask) {pot : List Nat → Nat} (hlen : ∀ {s n s'}, ask s n s' → s'.outer.length + pot s'.asked ≤ s.outer.length + pot s.asked) {x : Mx} (hL : 3 ≤ La) {fa : Addr} {fd : FuncData} (F : Fun K "_law_worked" "_law_worked" s__law_worked fa fd) (T : Txt K mg CT CH) (G__law_count : DefD P w K mg base 1 "_law_count" ["_law_m", "_law_n"] dCount) (G__law_ask : DefD P w K mg base La "_law_ask" ["_law_m", "_law_n"] (dAskM ask x))
    (G__law_left : DefD P w K mg base 1 "_law_left" ["_law_m", "_law_n"] dLeft) (G__law_emptied : DefD P w K mg base 3 "_law_emptied" ["_law_m", "_law_n"] dEmptied) : FnOk P w K mg base CX0 (La + 1) fa fd ["_law_m"] (lSp K (dWorked ask pot x)) := by
  refine dok F sc__law_worked (fun ds S q qx ⟨M, s, f, s', e, _⟩ => by rw [e]; rfl) ⟨_, fun cdv A outer s H E hr => dss_cons (ds_while PassesOwn.never (dt_cmp (op_neM (K := K) hr.units) (si_eqA true) (de_dget (hu_of hr) (de_var 0) (de_str) (fun _ _ => rfl)) (de_lst (da_nil)) (nomark _))
        (dss_cons (ds_set (i := 1) sc__law_worked.nd rfl (Or.inl rfl) (de_ml PySem.F.slot_list_pop PySem.F.type_list_pop mt_popAt si_pop0 (de_dget (hu_of hr) (de_var 0) (de_str) (fun _ _ => rfl)) (da_cons (de_int) da_nil)))
        (dss_cons (ds_expr (de_ml PySem.F.slot_list_remove PySem.F.type_list_remove mt_remove si_rem (de_dget (hu_of hr) (de_var 0) (de_str) (fun _ _ => rfl)) (da_cons (de_var 1) da_nil)))
        (dss_one (ds_if (PW.pt (dw_and (dt_din (hu_of hr) (de_var 1) (de_dget (hu_of hr) (de_var 0) (de_str) (fun _ _ => rfl))) (dw_and1 (dt_cmp op_eq si_eq (de_call G__law_count (hr.mono (by omega)) (by rfl) (da_cons (de_var 0) (da_cons (de_var 1) da_nil))) (de_int) (nomark _)))))
          (dss_cons (ds_expr (de_ml PySem.F.slot_list_append PySem.F.type_list_append mt_append si_app (de_dget (hu_of hr) (de_var 0) (de_str) (fun _ _ => rfl)) (da_cons (de_var 1) da_nil)))
          (dss_cons (ds_expr (de_call G__law_ask (hr.mono (by omega)) (by rfl) (da_cons (de_var 0) (da_cons (de_var 1) da_nil))))
          (dss_cons (ds_expr (de_ml PySem.F.slot_list_remove PySem.F.type_list_remove mt_remove si_rem (de_dget (hu_of hr) (de_var 0) (de_str) (fun _ _ => rfl)) (da_cons (de_var 1) da_nil)))
          (dss_one (ds_if (dt_cmp op_eq si_eq (de_call G__law_count (hr.mono (by omega)) (by rfl) (da_cons (de_var 0) (da_cons (de_var 1) da_nil))) (de_int) (nomark _))
            (dss_cons (ds_expr (de_call G__law_left (hr.mono (by omega)) (by rfl) (da_cons (de_var 0) (da_cons (de_var 1) da_nil))))
            (dss_one (ds_expr (de_call G__law_emptied (hr.mono (by omega)) (by rfl) (da_cons (de_var 0) (da_cons (de_var 1) da_nil))))))
            (dss_nil))))))
          (dss_nil))))))
      (dss_one (ds_dput (hu_of hr) (de_var 0) (de_str) (de_non))), fun ds S q qx ⟨M, s, f, s', hd, R, W, G, hl, hw, hq⟩ => ?_⟩
  subst hd
  walk_at "dl"
  refine whlOf (fun f δ S' => ∃ M' si z1, δ = [some (.ref (M .m)), z1] ∧ MTr M x s S M' x si S' ∧ Wf si ∧ Good si ∧ si.outer.length + pot si.asked ≤ 50000 ∧ Work ask f si s') f ⟨M, s, _, rfl, MTr.refl R, W, G, hl, hw⟩ ?_
  rintro f δ S' ⟨M', si, z1, rfl, T1, W1, G1, hl1, hw⟩
  have hm := m_m T1.rep
  rw [MTr.m T1] at hm
  cases hw with
  | done h =>
    have hrow := m_row T1.rep h
    rw [h] at hm
    walk_at "dl"
    refine dgetOf hm rfl mg_row ?_
    simp only [rowM]
    walk_at "dl"
    refine neASame (p' := .list []) (by simp only [res]; rw [hrow]; rfl) rfl rfl (by decide) ?_
    walk_at "dl"
    refine dputOf hm rfl (by exact Nat.le_of_ble_eq_true rfl) ?_
    rw [mp_row]
    have T2 := MTr.noRow T1.rep
    rw [MTr.m T1] at T2
    walk_at "dl"
    exact hq M' _ (MTr.trans T1 T2)
  | @step f n r _ s1 _ h1 h2 h3 =>
    have hrow := m_row T1.rep h1
    rw [h1] at hm
    have hb : s'.many = s'.many := rfl
    obtain ⟨w1, w2, w3⟩ := W1.rowTail h1
    have g1 : Good { si with row := some r } := ⟨G1.cnt, G1.rnd, G1.rt, G1.rin, G1.oin⟩
    walk_at "dl"
    refine dgetOf hm rfl mg_row ?_
    simp only [rowM]
    walk_at "dl"
    refine neAOf (u := .list (nD (n :: r))) (v := .list []) (by simp only [res]; rw [hrow]) rfl (nat_any _) rfl (Nat.le_trans (Nat.min_le_right _ _) (by decide)) eqv_nil ?_
    walk_at "dl"
    refine dgetOf hm rfl mg_row ?_
    simp only [rowM]
    walk_at "dl"
    refine needOf (isLOf hrow) ?_
    walk_at "dl"
    refine pop0Of hrow ?_
    have T2 := MTr.trans T1 (MTr.setRow T1.rep h1 r)
    have hm2 := m_m T2.rep
    rw [MTr.m T1] at hm2
    have hwt := m_waits' T2.rep
    walk_at "dl"
    refine dgetOf hm2 rfl mg_waits ?_
    walk_at "dl"
    refine needOf (isLOf hwt) ?_
    walk_at "dl"
    refine remOf hwt (mem_cast w3) ?_
    have T3 := MTr.trans T2 (MTr.waits T2.rep (si.waits.erase n))
    rw [erase_cast, ← nD_ints]
    have hm3 := m_m T3.rep
    rw [MTr.m T1] at hm3
    have wU : Wf (Hs.unwait { si with row := some r } n) := w1.unwait fun l hl => by cases hl; exact w2
    have gU : Good (Hs.unwait { si with row := some r } n) := g1.unwait
    have fin : ∀ {M2 S2}, MTr M x s S M2 x s1 S2 → s1.outer.length + pot s1.asked ≤ si.outer.length + pot si.asked → ∀ z1, ∃ m', m' < f + 1 ∧ ∃ M' si z1', [some (D.ref (M .m)), z1] = [some (.ref (M .m)), z1'] ∧ MTr M x s S M' x si S2 ∧ Wf si ∧ Good si ∧ si.outer.length + pot si.asked ≤ 50000 ∧ Work ask m' si s' := fun T ho z1 =>
      ⟨f, Nat.lt_succ_self f, _, s1, z1, rfl, T, (Turn.wf KA.ok h2 w1 fun l hl => by cases hl; exact w2).1, Turn.good KA h2 w1 g1 (fun l hl => by cases hl; exact w2), by omega, h3⟩
    have hcn := g1.eq n
    walk_at "dl"
    refine dgetOf hm3 rfl mg_parts ?_
    walk_at "dl"
    refine dinOf (m_parts T3.rep) rfl ?_
    rw [plD_isSome]
    by_cases ht : n ∈ si.there
    rotate_left
    · rw [decide_eq_false ht]
      walk_at "dl"
      have e1 : s1 = Hs.unwait { si with row := some r } n := by
        cases h2 with
        | pass _ => rfl
        | stay h _ _ => exact absurd (.inr ht) h
        | go h _ _ => exact absurd (.inr ht) h
      rw [e1] at fin
      exact fin T3 (Nat.le_refl _) _
    rw [decide_eq_true ht]
    walk_at "dl"
    refine ⟨M', x, Hs.unwait { si with row := some r } n, n, by rw [MTr.m T1], .inl T3.rep, wU, ?_⟩
    have ecn : ((cntF (Hs.unwait { si with row := some r } n) n : Nat) : Int) = si.cnt n := (gU.eq n).symm
    rw [ecn]
    walk_at "dl"
    by_cases hc : si.cnt n = 0
    rotate_left
    · rw [decide_eq_false hc]
      walk_at "dl"
      have hc2 : 0 < si.cnt n := by have := G1.nonneg n; omega
      have e1 : s1 = Hs.unwait { si with row := some r } n := by
        cases h2 with
        | pass _ => rfl
        | stay h _ _ => exact absurd (.inl hc2) h
        | go h _ _ => exact absurd (.inl hc2) h
      rw [e1] at fin
      exact fin T3 (Nat.le_refl _) _
    rw [decide_eq_true hc]
    walk_at "dl"
    refine dgetOf hm3 rfl mg_outer ?_
    have ho3 := m_outer T3.rep
    walk_at "dl"
    refine needOf (isLOf ho3) ?_
    walk_at "dl"
    refine appOf ho3 (by rw [nD_len]; show si.outer.length < _; omega) ?_
    rw [nD_snoc]
    have T4 : MTr M x s S M' x ((Hs.unwait { si with row := some r } n).up n) _ := MTr.trans T3 (MTr.outer T3.rep (si.outer ++ [n]) (DL.fset si.cnt n (si.cnt n + 1)))
    have hb := w1.tin n ht
    have wV := wU.up n
    have gV := gU.up hb.2
    obtain ⟨s2, ha, hend⟩ : ∃ s2, ask ((Hs.unwait { si with row := some r } n).up n) n s2 ∧ (((s2.down n).cnt n ≠ 0 ∧ s1 = s2.down n) ∨ ((s2.down n).cnt n = 0 ∧ s1 = (((s2.down n).gone n).emptied n (s2.parts n)).bare n)) := by
      cases h2 with
      | pass h => exact absurd h (fun z => z.elim (fun y => by have : 0 < si.cnt n := y; omega) fun y => y ht)
      | stay _ h1 h2 => exact ⟨_, h1, .inl ⟨h2, rfl⟩⟩
      | go _ h1 h2 => exact ⟨_, h1, .inr ⟨h2, rfl⟩⟩
    walk_at "dl"
    refine ⟨M', _, n, s2, by rw [MTr.m T1], T4.rep, wV, gV, ht, ha, fun M2 S2 T5 => ?_⟩
    have T5' := MTr.trans T4 T5
    have hm5 := m_m T5'.rep
    rw [MTr.m T5'] at hm5
    have ho5 := m_outer' T5'.rep
    have hno := KA.out ha (List.mem_append_right _ (List.mem_singleton.mpr rfl))
    have w2' := KA.ok.wf ha wV ht
    have g2' := KA.good ha wV gV ht
    have hol := hlen ha
    have hol2 : s2.outer.length + pot s2.asked ≤ si.outer.length + 1 + pot si.asked := by
      have : ((Hs.unwait { si with row := some r } n).up n).outer.length = si.outer.length + 1 := by show (si.outer ++ [n]).length = _; rw [List.length_append, List.length_singleton]
      have h2 : ((Hs.unwait { si with row := some r } n).up n).asked = si.asked := rfl
      rw [this, h2] at hol
      exact hol
    walk_at "dl"
    refine dgetOf hm5 rfl mg_outer ?_
    walk_at "dl"
    refine needOf (isLOf ho5) ?_
    walk_at "dl"
    refine remOf ho5 (mem_cast hno) ?_
    rw [erase_cast, ← nD_ints]
    have T6 : MTr M x s S M2 x (s2.down n) _ := MTr.trans T5' (MTr.outer T5'.rep (s2.outer.erase n) (DL.fset s2.cnt n (s2.cnt n - 1)))
    have w6 := w2'.down n
    have g6 := g2'.down hno
    have hm6 := MTr.m T6
    have hol6 : (s2.down n).outer.length + pot (s2.down n).asked ≤ si.outer.length + pot si.asked := by
      show (s2.outer.erase n).length + pot s2.asked ≤ _
      rw [List.length_erase_of_mem hno]
      have := List.length_pos_of_mem hno
      omega
    walk_at "dl"
    refine ⟨M2, x, s2.down n, n, by rw [hm6], .inl T6.rep, w6, ?_⟩
    rw [← g6.eq n]
    walk_at "dl"
    rcases hend with ⟨hne, e1⟩ | ⟨hz, e1⟩
    · rw [decide_eq_false hne]
      walk_at "dl"
      rw [e1] at fin
      exact fin T6 hol6 _
    · rw [decide_eq_true hz]
      have hs := KA.ok.stay ha ht
      walk_at "dl"
      refine ⟨M2, x, s2.down n, n, by rw [hm6], T6.rep, w6, g6, hs, fun S7 T7 => ?_⟩
      walk_at "dl"
      refine ⟨M2, x, (s2.down n).gone n, n, by rw [hm6], T7.rep, w6.gone hs, g6.gone w6 hs, List.mem_append_right _ (List.mem_singleton.mpr rfl), ?_, fun S8 T8 => ?_⟩
      · show s2.row ≠ none
        rw [KA.ok.row ha]
        exact nofun
      · rw [e1] at fin
        refine fin (MTr.trans T6 (MTr.trans T7 T8)) ?_ _
        show (((s2.down n).gone n).emptied n (s2.parts n)).outer.length + pot (((s2.down n).gone n).emptied n (s2.parts n)).asked ≤ _
        rw [(emptied_outer _ _).1, (emptied_outer _ _).2]
        exact hol6
/-- a value behind a hold that was taken away -/
def dLoosed (ask : AskR) (pot : List Nat → Nat) (x : Mx) : SpD := fun ds S k _ => ∃ (M : ML → Addr) (s : Hs) (v : Vl) (s' : Hs), ds = [.ref (M .m), vM v] ∧ MRep M x s S ∧ Wf s ∧ GoodP s v ∧ VOk s.many v ∧ s.outer.length + pot s.asked ≤ 50000 ∧ Loose ask s v s' ∧ ∀ M' S', MTr M x s S M' x s' S' → k .non S'
theorem ok_loosed {L : Nat} {ask : AskR} {pot : List Nat → Nat} {x : Mx} (hL : 1 ≤ L) {fa : Addr} {fd : FuncData} (F : Fun K "_law_loosed" "_law_loosed" s__law_loosed fa fd) (T : Txt K mg CT CH) (G__law_count : DefD P w K mg base 1 "_law_count" ["_law_m", "_law_n"] dCount) (G__law_worked : DefD P w K mg base L "_law_worked" ["_law_m"] (dWorked ask pot x)) :
    FnOk P w K mg base CX0 (L + 1) fa fd ["_law_m", "_law_value_here"] (lSp K (dLoosed ask pot x)) := by
  refine dok F sc__law_loosed (fun ds S q qx ⟨M, s, v, s', e, _⟩ => by rw [e]; rfl) ⟨_, fun cdv A outer s H E hr => dss_cons (ds_if (PW.pt (dw_or (dt_not (dt_val (de_callB (clIsi' (K := K)) si_isi (by rfl) T.isinstance (by decide +kernel) (da_cons (de_var 1) (da_cons (de_blt (n := "tuple") (by rfl) T.tuple (by decide +kernel)) da_nil))))) (dw_or (dt_dinN (hu_of hr) (de_ix ix_seq (si_ix rfl) (de_var 1) (de_int) (fun _ _ => rfl)) (de_dget (hu_of hr) (de_var 0) (de_str) (fun _ _ => rfl))) (dw_or1 (dt_cmp (opIn (K := K)) (si_in false) (de_ix ix_seq (si_ix rfl) (de_var 1) (de_int) (fun _ _ => rfl)) (de_dget (hu_of hr) (de_var 0) (de_str) (fun _ _ => rfl)) (by rfl))))))
        (dss_one (ds_retN))
        (dss_nil))
      (dss_one (ds_if (dt_cmp op_eq si_eq (de_call G__law_count (hr.mono (by omega)) (by rfl) (da_cons (de_var 0) (da_cons (de_ix ix_seq (si_ix rfl) (de_var 1) (de_int) (fun _ _ => rfl)) da_nil))) (de_int) (nomark _))
        (dss_cons (ds_expr (de_ml PySem.F.slot_list_append PySem.F.type_list_append mt_append si_app (de_dget (hu_of hr) (de_var 0) (de_str) (fun _ _ => rfl)) (da_cons (de_ix ix_seq (si_ix rfl) (de_var 1) (de_int) (fun _ _ => rfl)) da_nil)))
        (dss_one (ds_if (dt_cmp op_isN si_isN (de_dget (hu_of hr) (de_var 0) (de_str) (fun _ _ => rfl)) (de_non) (nomark _))
          (dss_cons (ds_dput (hu_of hr) (de_var 0) (de_str) (de_new (da_cons (de_ix ix_seq (si_ix rfl) (de_var 1) (de_int) (fun _ _ => rfl)) da_nil)))
          (dss_one (ds_expr (de_call G__law_worked (hr.mono (by omega)) (by rfl) (da_cons (de_var 0) da_nil)))))
          (dss_one (ds_expr (de_ml PySem.F.slot_list_append PySem.F.type_list_append mt_append si_app (de_dget (hu_of hr) (de_var 0) (de_str) (fun _ _ => rfl)) (da_cons (de_ix ix_seq (si_ix rfl) (de_var 1) (de_int) (fun _ _ => rfl)) da_nil)))))))
        (dss_nil))), fun ds S q qx ⟨M, s, v, s', hd, R, W, G, hv, hpo, ht0, hq⟩ => ?_⟩
  subst hd
  cases v with
  | no d =>
    cases ht0
    walk_at "dl"
    simp only [vM]
    refine isi_no hv ?_
    walk_at "dl"
    exact hq M _ (MTr.refl R)
  | th n =>
    have he := enqs_of G
    walk_at "dl"
    simp only [vM]
    walk_at "dl"
    refine dgetOf (m_m R) rfl mg_parts ?_
    walk_at "dl"
    refine dninOf (m_parts R) rfl ?_
    rw [plD_isSome]
    have kept : (s.dec n).enqs n = false → q .non S := fun h => by
      cases ht0 with
      | kept _ => exact hq M _ (MTr.ghost R rfl)
      | wait h' _ => rw [h] at h'; cases h'
      | work h' _ _ => rw [h] at h'; cases h'
    by_cases ht : n ∈ s.there
    rotate_left
    · rw [decide_eq_false ht]
      walk_at "dl"
      exact kept (by rw [he, decide_eq_false ht]; simp)
    rw [decide_eq_true ht]
    walk_at "dl"
    refine dgetOf (m_m R) rfl mg_waits ?_
    walk_at "dl"
    rw [x_inR (m_waits R) rfl (flat_nats _), inD_nats]
    walk_at "dl"
    by_cases hw : n ∈ s.waits
    · rw [decide_eq_true hw]
      walk_at "dl"
      exact kept (by rw [he, decide_eq_true hw]; simp)
    rw [decide_eq_false hw]
    walk_at "dl"
    refine ⟨M, x, s, n, rfl, .inl R, W, ?_⟩
    walk_at "dl"
    by_cases hc : ((cntF s n : Nat) : Int) = 0
    rotate_left
    · rw [decide_eq_false hc]
      walk_at "dl"
      exact kept (by rw [he, decide_eq_false hc]; simp)
    rw [decide_eq_true hc]
    have hen : (s.dec n).enqs n = true := by rw [he, decide_eq_true hc, decide_eq_true ht, decide_eq_false hw]; rfl
    walk_at "dl"
    refine dgetOf (m_m R) rfl mg_waits ?_
    walk_at "dl"
    refine needOf (isLOf (m_waits R)) ?_
    walk_at "dl"
    refine appOf (m_waits R) (by rw [nD_len]; have := waits_len W; omega) ?_
    rw [nD_snoc]
    have T1 := MTr.waits R (s.waits ++ [n])
    have hm1 := m_m T1.rep
    dsimp only at hm1
    cases ht0 with
    | kept h => rw [hen] at h; cases h
    | wait h hr =>
      obtain ⟨l, hl⟩ : ∃ l, s.row = some l := Option.ne_none_iff_exists'.mp hr
      rw [hl] at hm1
      have hr1 := m_row T1.rep (l := l) hl
      walk_at "dl"
      refine dgetOf hm1 rfl mg_row ?_
      simp only [rowM]
      walk_at "dl"
      refine dgetOf hm1 rfl mg_row ?_
      simp only [rowM]
      walk_at "dl"
      refine needOf (isLOf hr1) ?_
      walk_at "dl"
      refine appOf hr1 (by rw [nD_len]; have := row_len W hl; omega) ?_
      rw [nD_snoc]
      have T2 := MTr.setRow T1.rep (l0 := l) hl (l ++ [n])
      refine hq M _ (MTr.trans (MTr.trans T1 T2) (MTr.ghost T2.rep ?_))
      show mC M x ((s.dec n).enq n) = mC M x { s with waits := s.waits ++ [n], row := some (l ++ [n]) }
      unfold Hs.enq Hs.dec
      dsimp only
      rw [hl]
      rfl
    | work h hr hwk =>
      rename_i f
      rw [hr] at hm1
      walk_at "dl"
      refine dgetOf hm1 rfl mg_row ?_
      simp only [rowM]
      walk_at "dl"
      refine freshOf fun p hp => ?_
      have np : M .m ≠ p := sto_ne hm1 hp
      walk_at "dl"
      refine dputOf (by rw [put_ne np]; exact hm1) rfl (by exact Nat.le_of_ble_eq_true rfl) ?_
      rw [mp_row]
      have T2 := MTr.begun T1.rep hr hp [n]
      have T3 : MTr M x s S _ x { (s.dec n).enq n with row := some [n] } _ := MTr.trans (MTr.trans T1 T2) (MTr.ghost T2.rep rfl)
      have W1 := (W.dec n).enq hen
      have G1 := G.loosed
      rw [loosed_th, if_pos hen] at G1
      walk_at "dl"
      exact ⟨_, _, f, s', by rw [MTr.m T3], T3.rep, ⟨W1.nd, W1.tin, W1.len, W1.most, W1.key, W1.plen, W1.pv, W1.wnd, W1.win, fun l hl => by
        cases hl
        exact ⟨by simp, fun i hi => by rw [List.mem_singleton.mp hi]; exact List.mem_append_right _ (List.mem_singleton.mpr rfl)⟩, W1.pz, W1.az, W1.kok⟩, ⟨G1.cnt, G1.rnd, G1.rt, G1.rin, G1.oin⟩, hpo, hwk, fun M' S' T4 => hq M' S' (MTr.trans T3 T4)⟩
end
end K

set_option Elab.async false
set_option linter.all false
set_option maxRecDepth 100000
namespace K
open PySem L2 Evl EX DL HM
abbrev s__law_parted : Stmt := top 22
abbrev N__law_parted : List Str := ["_law_m", "_law_deed", "_law_pairs", "_law_at", "_law_old", "_law_value_here", "_law_k"]
theorem sc__law_parted : FnScope N__law_parted ["_law_m", "_law_deed"] (defScope s__law_parted) := ⟨rfl, rfl, rfl, by decide +kernel, rfl, by decide +kernel, by decide +kernel⟩
abbrev s__law_modelled : Stmt := top 23
abbrev N__law_modelled : List Str := ["_law_m", "_law_deed"]
theorem sc__law_modelled : FnScope N__law_modelled ["_law_m", "_law_deed"] (defScope s__law_modelled) := ⟨rfl, rfl, rfl, by decide +kernel, rfl, by decide +kernel, by decide +kernel⟩
section
variable {P : Program} {w : World} {K : PySem.W.Frag} {mg : Str → Option Value} {base : Heap} {CT CH : Addr}
local macro_rules | `(tactic| walk_at "dl") => `(tactic| try simp only [↓x_neg, ↓x_lcS, ↓x_lockE, ↓x_eqA, ↓x_dictD, ↓x_disp, ↓x_pNil, ↓x_pCons, ↓x_forS, ↓x_diSL, ↓x_diKeys, ↓x_lock, ↓x_dictP, ↓x_fld, ↓x_fldS, ↓x_fldA, ↓x_meth, ↓x_make, ↓x_dget, ↓x_din, ↓x_dget1, ↓x_dget2, ↓x_dpop, ↓x_dput, ↓x_listD, ↓x_sortDI, ↓x_lenD, ↓x_isiC, x_icS, x_icI, x_icB, x_icN, x_ioS, x_ioI, x_ioB, x_ioN, ↓x_gSub, ↓x_sortDL, ↓x_eqO, ↓x_ninA, x_catN, x_isBB, x_isBN, x_isBI, x_isBS, x_isBR, ↓x_seq, ↓x_nx, ↓x_pass, ↓x_brk, ↓x_cnt, ↓x_drop, ↓x_ret, ↓x_retN, ↓x_ifS, ↓x_set, ↓x_asg, ↓x_gN, ↓x_gT, ↓x_gsC, ↓x_gsN, ↓x_var, x_rdv, ↓x_c, ↓x_op, ↓x_test, x_tst, ↓x_and, ↓x_or, ↓x_not, ↓x_andV, ↓x_orV, ↓x_notV, x_tstV, ↓x_ifE, x_true, x_false, ↓x_nil, ↓x_cons, ↓x_tup, ↓x_lst, ↓x_new, ↓x_newD, ↓x_call, ↓x_cb, x_oI, x_oIc, x_oS, x_addS, x_isN, x_notN, x_eqI, x_eqS, x_eqIS, x_eqSI, x_eqNS, x_neI, x_neS, x_neB, x_eqB, x_few, x_need, ↓x_ix, x_lenS, x_ixL0, x_ixT0, x_ixT1, x_ixT2, x_ixT3, x_ixT4, x_lenL, x_lenT, x_lenC, x_listL, x_listT, x_tupL, x_tupT, x_strI, x_strS, x_int1, x_intB, x_I1, x_I2, x_cat, x_catT, ↓x_split, ↓x_for, ↓x_cut, ↓x_lc, ↓x_whl, ↓x_diL, ↓x_diT, ↓x_diS, x_itL, x_itC, x_itT, x_itS, ↓x_diR1, ↓x_diR2, ↓x_diE, x_enmL, x_enmC, ↓x_gcN, ↓x_gcT, ↓x_yes, ↓x_ml, ↓x_ms, x_strq, x_ss, x_ssc, x_ssi, ↓x_join, ↓x_aug, x_st2I, ↓x_sl, ↓x_noP, ↓x_part, x_intq, x_slL, x_slC, x_slS, ↓x_in, x_inT, x_inL, x_ninT, x_ninL, x_inN, x_inSS, x_inSI, x_inIS, x_inII, ↓x_sg, x_sgS, x_nsgS, ↓x_eqD, ↓x_inDD, x_mulS, ↓x_isi, x_isiS, x_isiI, x_isiB, x_isiN, x_isiL, x_isiT, ↓x_isTT, x_itI, x_itStr, x_itN, x_itB, x_itLst, x_itTup, ↓x_any, ↓x_all, ↓x_sum, ↓x_srtI, ↓x_srtS, ↓x_intS, ↓x_lenRf, ↓x_tupRf, ↓x_frz', x_flS, x_flI, x_flN, x_flB, x_cs_bool, x_isB_NoneType_bool, x_isB_bool_bool, x_isB_int_bool, x_isB_str_bool, x_isB_list_bool, x_isB_tuple_bool, x_isB_dict_bool, x_cs_int, x_isB_NoneType_int, x_isB_bool_int, x_isB_int_int, x_isB_str_int, x_isB_list_int, x_isB_tuple_int, x_isB_dict_int, x_cs_str, x_isB_NoneType_str, x_isB_bool_str, x_isB_int_str, x_isB_str_str, x_isB_list_str, x_isB_tuple_str, x_isB_dict_str, x_cs_list, x_isB_NoneType_list, x_isB_bool_list, x_isB_int_list, x_isB_str_list, x_isB_list_list, x_isB_tuple_list, x_isB_dict_list, x_cs_tuple, x_isB_NoneType_tuple, x_isB_bool_tuple, x_isB_int_tuple, x_isB_str_tuple, x_isB_list_tuple, x_isB_tuple_tuple, x_isB_dict_tuple, x_cs_dict, x_isB_NoneType_dict, x_isB_bool_dict, x_isB_int_dict, x_isB_str_dict, x_isB_list_dict, x_isB_tuple_dict, x_isB_dict_dict, List.all_cons, List.all_nil, Bool.and_self, Bool.or_false, Bool.or_true, Bool.false_or, Bool.true_or, wipeD, setD, DL.isNon, List.set_cons_zero, List.set_cons_succ, List.getElem?_cons_zero, List.getElem?_cons_succ, List.length_cons, List.length_nil, Nat.zero_add, List.cons_append, List.nil_append, decide_true, decide_false, Bool.not_true, Bool.not_false, true_and, and_true, startD, List.map_cons, List.map_nil, Nat.reduceSub, Nat.reduceLeDiff, Nat.zero_le, Int.reduceLT, Int.reduceLE, and_self, Nat.reduceAdd, List.replicate])
/-- where a key stands -/
theorem key_at {β : Type} (v : β) (ky : Key) : ∀ {l : List (Key × β)}, (l.map (·.1)).Nodup → (∃ i kv, l[i]? = some kv ∧ kv.1 = ky ∧ gval l ky = some kv.2 ∧ gput l ky v = l.set i (ky, v) ∧ gdrop l ky = l.eraseIdx i ∧ ∀ j kv', l[j]? = some kv' → kv'.1 = ky → j = i) ∨ (gval l ky = none ∧ ∀ kv ∈ l, kv.1 ≠ ky)
  | [], _ => .inr ⟨rfl, fun _ h => by cases h⟩
  | kv :: l, nd => by
    rw [List.map_cons] at nd
    obtain ⟨n1, n2⟩ := List.nodup_cons.mp nd
    by_cases z : kv.1 = ky
    · have hno : ∀ x ∈ l, x.1 ≠ ky := fun x hx y => n1 (List.mem_map.mpr ⟨x, hx, y.trans z.symm⟩)
      refine .inl ⟨0, kv, rfl, z, by simp [gval, List.find?_cons, z], ?_, ?_, fun j kv' hj hk => ?_⟩
      · unfold gput
        rw [if_pos (by rw [List.any_cons]; simp [z]), List.map_cons, if_pos z, z]
        show _ = (ky, v) :: l
        congr 1
        refine (List.map_congr_left fun x hx => ?_).trans (List.map_id _)
        rw [if_neg (hno x hx)]
        rfl
      · unfold gdrop
        rw [List.filter_cons, if_neg (by simp [z])]
        show _ = l
        rw [List.filter_eq_self]
        intro x hx
        rw [decide_eq_true_iff]
        exact hno x hx
      · cases j with
        | zero => rfl
        | succ j => exact absurd hk (hno kv' (List.mem_of_getElem? (by simpa using hj)))
    · rcases key_at v ky n2 with ⟨i, kv', h1, h2, h3, h4, h5, h6⟩ | ⟨h1, h2⟩
      · refine .inl ⟨i + 1, kv', by simpa using h1, h2, by rw [← h3]; simp [gval, List.find?_cons, z], ?_, ?_, fun j kv2 hj hk => ?_⟩
        · rw [List.set_cons_succ, ← h4]
          unfold gput
          rw [List.any_cons]
          simp only [z, decide_false, Bool.false_or]
          split
          · rw [List.map_cons, if_neg z]
          · rfl
        · rw [List.eraseIdx_cons_succ, ← h5]
          unfold gdrop
          rw [List.filter_cons, if_pos (by simp [z])]
        · cases j with
          | zero => simp at hj; rw [hj] at z; exact absurd hk z
          | succ j => rw [h6 j kv2 (by simpa using hj) hk]
      · refine .inr ⟨by rw [← h1]; simp [gval, List.find?_cons, z], fun x hx => ?_⟩
        rcases List.mem_cons.mp hx with hx | hx
        · rw [hx]; exact z
        · exact h2 x hx
inductive Dp where
  | put (n : Nat) (k : Key) (v : Vl) | take (n : Nat) (k : Key) | make (n : Nat) (k : Key)
def tD (n : Nat) : D := .tup [.str "t", .int (n : Int)]
def Dp.d : Dp → D
  | .put n k v => .tup [.str "put", tD n, dK k, vM v]
  | .take n k => .tup [.str "take", tD n, dK k]
  | .make n k => .tup [.str "make", tD n, dK k]
def Dp.n : Dp → Nat
  | .put n _ _ => n
  | .take n _ => n
  | .make n _ => n
def Dp.k : Dp → Key
  | .put _ k _ => k
  | .take _ k => k
  | .make _ k => k
def Dp.v (s : Hs) : Dp → Vl
  | .put _ _ v => v
  | .take _ _ => .no .non
  | .make _ _ => .th (s.many + 1)
def Dp.Ok (s : Hs) : Dp → Prop
  | .put n k v => n ∈ s.there ∧ (dK k).any = true ∧ VOk s.many v ∧ (s.parts n).length < 90000
  | .take n k => n ∈ s.there
  | .make n k => n ∈ s.there ∧ (dK k).any = true ∧ s.many < 5000 ∧ (s.parts n).length < 90000
def Hs.madeIn (s : Hs) : Hs := s.made (.str "made") .non
inductive Dp.R (ask : AskR) (s : Hs) : Dp → Hs → Prop where
  | put {n : Nat} {k : Key} {v : Vl} {s' : Hs} : Loose ask (s.putP n k v) (oldP s n k) s' → Dp.R ask s (.put n k v) s'
  | take {n : Nat} {k : Key} {v : Vl} {s' : Hs} : gval (s.parts n) k = some v → Loose ask (s.dropP n k) v s' → Dp.R ask s (.take n k) s'
  | none {n : Nat} {k : Key} : gval (s.parts n) k = none → Dp.R ask s (.take n k) s
  | make {n : Nat} {k : Key} {s' : Hs} : Loose ask ((Hs.madeIn s).putP n k (.th (s.many + 1))) (oldP s n k) s' → Dp.R ask s (.make n k) s'
theorem eq_key {S : Sto} {k : DK} (a b : Key) (q : k (.bl (decide (a = b))) S) : oEq false (dK a) (dK b) S k := by
  cases a with
  | inl i =>
    cases b with
    | inl j => show k (.bl (decide (i = j))) S; rw [show decide (i = j) = decide ((Sum.inl i : Key) = Sum.inl j) from decide_eq_decide.mpr ⟨fun h => by rw [h], fun h => Sum.inl.inj h⟩]; exact q
    | inr s => rw [show decide ((Sum.inl i : Key) = Sum.inr s) = false from rfl] at q; exact q
  | inr t =>
    cases b with
    | inl j => rw [show decide ((Sum.inr t : Key) = Sum.inl j) = false from rfl] at q; exact q
    | inr s => show k (.bl (decide (t = s))) S; rw [show decide (t = s) = decide ((Sum.inr t : Key) = Sum.inr s) from decide_eq_decide.mpr ⟨fun h => by rw [h], fun h => Sum.inr.inj h⟩]; exact q
section
variable {S : Sto} {k : DK} {a : Int}
theorem neOne (q : k (.bl true) S) : st2 (oEqD true) (.list [.int a]) (.list []) S k ⟨⟩ := neDOf (p := .list [.int a]) (q := .list []) rfl rfl rfl rfl (Nat.le_of_ble_eq_true rfl) (by rw [@decide_eq_false _ (Classical.propDecidable _) (by exact nofun)]; exact q)
theorem eqOne (q : k (.bl false) S) : st2 (oEqD false) (.list [.int a]) (.list []) S k ⟨⟩ := eqDOf (p := .list [.int a]) (q := .list []) rfl rfl rfl rfl (Nat.le_of_ble_eq_true rfl) (by rw [@decide_eq_false _ (Classical.propDecidable _) (by exact nofun)]; exact q)
end
theorem eraseIdx_map {α β : Type} (f : α → β) : ∀ (l : List α) (i : Nat), (l.map f).eraseIdx i = (l.eraseIdx i).map f
  | [], _ => rfl
  | _ :: _, 0 => rfl
  | a :: l, i + 1 => by rw [List.map_cons, List.eraseIdx_cons_succ, List.eraseIdx_cons_succ, List.map_cons, eraseIdx_map f l i]
theorem ixN_nat {n i : Nat} (h : i < n) : ixN n (i : Int) = some i := by
  unfold ixN
  simp
  omega
/-- a part put, its place being known -/
theorem partTail {ask : AskR} {pot : List Nat → Nat} {x : Mx} {M : ML → Addr} {s s' : Hs} {S : Sto} {n : Nat} {k : Key} {v : Vl} {q : DK} (R : MRep M x s S) (W : Wf s) (G : Good s) (hn : n ∈ s.there) (o2 : (dK k).any = true) (o3 : VOk s.many v) (o4 : (s.parts n).length < 90000) (hpo : s.outer.length + pot s.asked ≤ 50000) (at' : List D)
    (hat : (∃ i kv, at' = [.int ((i : Nat) : Int)] ∧ (s.parts n)[i]? = some kv ∧ gval (s.parts n) k = some kv.2 ∧ gput (s.parts n) k v = (s.parts n).set i (k, v)) ∨ (at' = [] ∧ gval (s.parts n) k = none)) (ht : Loose ask (s.putP n k v) (oldP s n k) s') (hq : ∀ M' S', MTr M x s S M' x s' S' → q .non S') {a b : D} {rest : List D} (deed : D) (hd : deed = .tup (a :: b :: dK k :: rest)) (z4 z6 : Option D) :
    dIfS (dTest (dOp (oEqD false) (dVar 3) (dLst dNil))) (dDrop (dML oApp (dVar 2) (dCons (dTup (dCons (dOp oIx (dVar 1) (dC (.int 2))) (dCons (dVar 5) dNil))) dNil)))
      (dSeq (dSet (dOp oIx (dOp oIx (dVar 2) (dOp oIx (dVar 3) (dC (.int 0)))) (dC (.int 1))) 4) (dSeq (dAsg (dTup (dCons (dOp oIx (dVar 1) (dC (.int 2))) (dCons (dVar 5) dNil))) (gSubD (dVar 2) (dOp oIx (dVar 3) (dC (.int 0))))) (dDrop (dCall (dLoosed ask pot x) (dCons (dVar 0) (dCons (dVar 4) dNil))))))
      { nx := fun _ S' => q .non S', rt := q } [some (.ref (M .m)), some deed, some (.ref (M (.pl n))), some (.list at'), z4, some (vM v), z6] S := by
  subst hd
  have hpl := m_pl R (n := n) (.inl hn)
  have T1 := MTr.pl R (n := n) (.inl hn) (gput (s.parts n) k v) (s.held v).cnt
  have e1 : ({ s with parts := DL.fset s.parts n (gput (s.parts n) k v), cnt := (s.held v).cnt } : Hs) = s.putP n k v := by unfold Hs.putP; cases v <;> rfl
  rw [e1] at T1
  rcases hat with ⟨i, kv, rfl, k1, k3, k4⟩ | ⟨rfl, k1⟩
  · have hi := (List.getElem?_eq_some_iff.mp k1).1
    have hvo := W.pv n kv (List.mem_of_getElem? k1)
    walk_at "dl"
    refine eqOne ?_
    walk_at "dl"
    refine ixSeq (ds := (s.parts n).map pM) hpl (by rw [List.getElem?_map, k1]; rfl) ?_
    show ixq (.tup [dK kv.1, vM kv.2]) 1 _ _ ⟨⟩
    walk_at "dl"
    refine setOf hpl (j := i) (by rw [List.length_map]; exact ixN_nat hi) ?_
    rw [k4, List.map_set] at T1
    have eo : oldP s n k = kv.2 := by unfold oldP; rw [k3]; rfl
    walk_at "dl"
    refine ⟨M, s.putP n k v, kv.2, s', rfl, T1.rep, W.putP (W.tin n hn).2 o3 o2 o4, by rw [← eo]; exact G.putP W hn k v, by show VOk (s.held v).many _; rw [held_many]; exact hvo, ?_, ?_, fun M' S' T2 => hq M' S' (MTr.trans T1 T2)⟩
    · show (s.held v).outer.length + pot (s.held v).asked ≤ _
      cases v <;> exact hpo
    · rw [← eo]; exact ht
  · walk_at "dl"
    refine eqSame (p := .list []) rfl rfl (by decide +kernel) (by decide +kernel) ?_
    walk_at "dl"
    refine needOf (isLOf hpl) ?_
    walk_at "dl"
    refine appOf hpl (by rw [List.length_map]; omega) ?_
    rw [gput_new k1, List.map_append] at T1
    have eo : oldP s n k = .no .non := by unfold oldP; rw [k1]; rfl
    rw [eo] at ht
    cases ht
    exact hq M _ T1
/-- a thing made by the law -/
theorem partMade {x : Mx} {M : ML → Addr} {s : Hs} {S : Sto} {n : Nat} {E : DEnds} {deed at' z5 : D} {z4 z6 : Option D} (R : MRep M x s S) (W : Wf s) (G : Good s) (hm : s.many < 5000) (hn : n ∈ s.there)
    (hq : ∀ M' S', MTr M x s S M' x (Hs.madeIn s) S' → M' (.pl n) = M (.pl n) → E.nx [some (.ref (M' .m)), some deed, some (.ref (M' (.pl n))), some at', z4, some (vM (.th (s.many + 1))), z6] S') :
    dDPut (dVar 0) (dC (.str (Str.ofString "many"))) (dOp (oI fun i j => D.int (i + j)) (dDGet (dVar 0) (dC (.str (Str.ofString "many")))) (dC (.int 1)))
      { E with nx := dSeq (dDPut (dDGet (dVar 0) (dC (.str (Str.ofString "parts")))) (dDGet (dVar 0) (dC (.str (Str.ofString "many")))) (dNew dNil)) (dSet (dTup (dCons (dC (.str (Str.ofString "t"))) (dCons (dDGet (dVar 0) (dC (.str (Str.ofString "many")))) dNil))) 5) E }
      [some (.ref (M .m)), some deed, some (.ref (M (.pl n))), some at', z4, some z5, z6] S := by
  walk_at "dl"
  refine dgetOf (m_m R) rfl mg_many ?_
  walk_at "dl"
  refine dputOf (m_m R) rfl (by exact Nat.le_of_ble_eq_true rfl) ?_
  have ec : ((s.many : Int) + 1) = ((s.many + 1 : Nat) : Int) := by omega
  rw [ec, mp_many]
  walk_at "dl"
  refine freshOf fun p hp => ?_
  have nmp : M .m ≠ p := sto_ne put_same hp
  have npp : M .parts ≠ p := fun z => by
    have := m_parts R
    rw [z] at this
    rw [put_ne nmp.symm, this] at hp
    cases hp
  have nmq : M .m ≠ M .parts := R.ne nofun nofun nofun
  rw [put_ne nmp.symm] at hp
  walk_at "dl"
  refine dgetOf (by rw [put_ne nmp]; exact put_same) rfl mg_parts ?_
  walk_at "dl"
  refine dgetOf (by rw [put_ne nmp]; exact put_same) rfl mg_many ?_
  walk_at "dl"
  refine dputOf (kvs := plD M s.there) (by rw [put_ne npp, put_ne nmq.symm]; exact m_parts R) rfl (by unfold plD; rw [List.length_map]; have := W.len; have := W.most; omega) ?_
  rw [gput_new (plD_new fun z => by have := W.tin _ z; omega)]
  have T1 := MTr.made R W G (.str (Str.ofString "made")) .non hp
  have h2 := m_m T1.rep
  rw [MTr.m T1] at h2
  walk_at "dl"
  refine dgetOf h2 rfl mg_many ?_
  walk_at "dl"
  have hnb := W.tin n hn
  have e3 : (fun y => if y = ML.pl (s.many + 1) then p else M y) (ML.pl n) = M (.pl n) := if_neg (fun z => by cases z; omega)
  have h3 := hq _ _ T1 e3
  rw [show (if ML.pl n = ML.pl (s.many + 1) then p else M (ML.pl n)) = M (.pl n) from e3] at h3
  exact h3
def dParted (ask : AskR) (pot : List Nat → Nat) (x : Mx) : SpD := fun ds S k _ => ∃ (M : ML → Addr) (s : Hs) (d : Dp) (s' : Hs), ds = [.ref (M .m), d.d] ∧ MRep M x s S ∧ Wf s ∧ Good s ∧ d.Ok s ∧ s.outer.length + pot s.asked ≤ 50000 ∧ d.R ask s s' ∧ ∀ M' S', MTr M x s S M' x s' S' → k .non S'
theorem ok_parted {L : Nat} {ask : AskR} {pot : List Nat → Nat} {x : Mx} {fa : Addr} {fd : FuncData} (F : Fun K "_law_parted" "_law_parted" s__law_parted fa fd) (T : Txt K mg CT CH) (G__law_loosed : DefD P w K mg base L "_law_loosed" ["_law_m", "_law_value_here"] (dLoosed ask pot x)) :
    FnOk P w K mg base CX0 (L + 1) fa fd ["_law_m", "_law_deed"] (lSp K (dParted ask pot x)) := by
  refine dok F sc__law_parted (fun ds S q qx ⟨M, s, d, s', e, _⟩ => by rw [e]; rfl) ⟨_, fun cdv A outer s H E hr => dss_cons (ds_set (i := 2) sc__law_parted.nd rfl (Or.inr rfl) (de_dget (hu_of hr) (de_dget (hu_of hr) (de_var 0) (de_str) (fun _ _ => rfl)) (de_ix ix_seq (si_ix rfl) (de_ix ix_seq (si_ix rfl) (de_var 1) (de_int) (fun _ _ => rfl)) (de_int) (fun _ _ => rfl)) (fun _ _ => rfl)))
      (dss_cons (ds_setLc (i := 3) (own := [("_law_k", 6)]) (gc_name (j := 6) (by decide)) rfl sc__law_parted.nd rfl rfl (sw_true rfl rfl rfl (by decide +kernel)) (di_range1 (by rfl) T.range (da_cons (de_callB call_len (si_len rfl) (by rfl) T.len (by decide +kernel) (da_cons (de_var 2) da_nil)) da_nil)) (blkOk_by (N := N__law_parted) (sc := defScope s__law_parted) (by decide +kernel)) (fun _ _ _ _ _ => pg_name (i := 6) sc__law_parted.nd rfl (Or.inl rfl)) (fun _ _ _ _ _ => dts_one (dt_cmp op_eq si_eq (de_ix ix_seq (si_ix rfl) (de_ix ix_seq (si_ix rfl) (de_var 2) (de_var 6) (fun _ _ => rfl)) (de_int) (fun _ _ => rfl)) (de_ix ix_seq (si_ix rfl) (de_var 1) (de_int) (fun _ _ => rfl)) (nomark _))) (fun _ _ _ _ _ => de_var 6))
      (dss_cons (ds_if (dt_cmp op_eq si_eq (de_ix ix_seq (si_ix rfl) (de_var 1) (de_int) (fun _ _ => rfl)) (de_str) (nomark _))
        (dss_cons (ds_if (dt_cmp (op_neM (K := K) hr.units) (si_eqM true) (de_var 3) (de_lst (da_nil)) (nomark _))
          (dss_cons (ds_set (i := 4) sc__law_parted.nd rfl (Or.inl rfl) (de_ix ix_seq (si_ix rfl) (de_ml PySem.F.slot_list_pop PySem.F.type_list_pop mt_popAt si_popAt (de_var 2) (da_cons (de_ix ix_seq (si_ix rfl) (de_var 3) (de_int) (fun _ _ => rfl)) da_nil)) (de_int) (fun _ _ => rfl)))
          (dss_one (ds_expr (de_call G__law_loosed (hr.mono (by omega)) (by rfl) (da_cons (de_var 0) (da_cons (de_var 4) da_nil))))))
          (dss_nil))
        (dss_one (ds_retN)))
        (dss_nil))
      (dss_cons (ds_set (i := 5) sc__law_parted.nd rfl (Or.inl rfl) (de_ix ix_seq (si_ix rfl) (de_var 1) (de_neg (de_int)) (fun _ _ => rfl)))
      (dss_cons (ds_if (dt_cmp op_eq si_eq (de_ix ix_seq (si_ix rfl) (de_var 1) (de_int) (fun _ _ => rfl)) (de_str) (nomark _))
        (dss_cons (ds_dput (hu_of hr) (de_var 0) (de_str) (de_op op_add si_add (de_dget (hu_of hr) (de_var 0) (de_str) (fun _ _ => rfl)) (de_int)))
        (dss_cons (ds_dput (hu_of hr) (de_dget (hu_of hr) (de_var 0) (de_str) (fun _ _ => rfl)) (de_dget (hu_of hr) (de_var 0) (de_str) (fun _ _ => rfl)) (de_new (da_nil)))
        (dss_one (ds_set (i := 5) sc__law_parted.nd rfl (Or.inl rfl) (de_tup (da_cons (de_str) (da_cons (de_dget (hu_of hr) (de_var 0) (de_str) (fun _ _ => rfl)) da_nil)))))))
        (dss_nil))
      (dss_one (ds_if (dt_cmp (op_eqM (K := K) hr.units) (si_eqM false) (de_var 3) (de_lst (da_nil)) (nomark _))
        (dss_one (ds_expr (de_ml PySem.F.slot_list_append PySem.F.type_list_append mt_append si_app (de_var 2) (da_cons (de_tup (da_cons (de_ix ix_seq (si_ix rfl) (de_var 1) (de_int) (fun _ _ => rfl)) (da_cons (de_var 5) da_nil))) da_nil))))
        (dss_cons (ds_set (i := 4) sc__law_parted.nd rfl (Or.inl rfl) (de_ix ix_seq (si_ix rfl) (de_ix ix_seq (si_ix rfl) (de_var 2) (de_ix ix_seq (si_ix rfl) (de_var 3) (de_int) (fun _ _ => rfl)) (fun _ _ => rfl)) (de_int) (fun _ _ => rfl)))
        (dss_cons (ds_asg (de_tup (da_cons (de_ix ix_seq (si_ix rfl) (de_var 1) (de_int) (fun _ _ => rfl)) (da_cons (de_var 5) da_nil))) (dg_sub (de_var 2) (de_ix ix_seq (si_ix rfl) (de_var 3) (de_int) (fun _ _ => rfl))))
        (dss_one (ds_expr (de_call G__law_loosed (hr.mono (by omega)) (by rfl) (da_cons (de_var 0) (da_cons (de_var 4) da_nil))))))))))))), fun ds S q qx ⟨M, s, d, s', hd, R, W, G, hok, hpo, ht, hq⟩ => ?_⟩
  subst hd
  have hn : d.n ∈ s.there := by
    cases d with
    | put n k v => exact hok.1
    | take n k => exact hok
    | make n k => exact hok.1
  have hpl := m_pl R (n := d.n) (.inl hn)
  obtain ⟨a, rest, hdd⟩ : ∃ a rest, d.d = .tup (.str a :: tD d.n :: dK d.k :: rest) := by cases d <;> exact ⟨_, _, rfl⟩
  have hl := W.plen d.n
  walk_at "dl"
  refine dgetOf (m_m R) rfl mg_parts ?_
  rw [hdd]
  walk_at "dl"
  unfold tD
  walk_at "dl"
  refine dgetOf (m_parts R) rfl (plD_get hn) ?_
  walk_at "dl"
  refine lenRf hpl ?_
  walk_at "dl"
  refine rngOf (by omega) (by rw [List.length_map]; omega) ?_
  rw [Int.toNat_natCast, List.length_map]
  have hixk : ∀ (p : Addr) (acc : List D) (j : Nat) (kv : Key × Vl), S p = none → (s.parts d.n)[j]? = some kv → SeqD (put S p (.lst acc)) (.ref (M (.pl d.n))) ((s.parts d.n).map pM) ∧ ((s.parts d.n).map pM)[j]? = some (pM kv) := fun p acc j kv hp hj => ⟨by show put S p _ _ = _; rw [put_ne (sto_ne hpl hp)]; exact hpl, by rw [List.getElem?_map, hj]; rfl⟩
  rcases key_at (d.v s) d.k (W.key d.n) with ⟨i, kv, k1, k2, k3, k4, k5, k6⟩ | ⟨k1, k2⟩
  · have hi := (List.getElem?_eq_some_iff.mp k1).1
    have hvo := W.pv d.n kv (List.mem_of_getElem? k1)
    refine lcOf (fun j acc => acc = if i < j then [D.int (i : Int)] else []) (by rw [rngD_len]; omega) (by rw [if_neg (by omega)]) ?_ ?_
    · rintro p hp j dd acc hj hacc
      obtain ⟨rfl, hjl⟩ := rngD_get hj
      have hkj := List.getElem?_eq_getElem hjl
      generalize (s.parts d.n)[j] = kvj at hkj
      obtain ⟨x1, x2⟩ := hixk p acc j kvj hp hkj
      walk_at "dl"
      rw [Int.zero_add]
      refine ixSeq x1 x2 ?_
      show ixq (.tup [dK kvj.1, vM kvj.2]) 0 _ _ ⟨⟩
      walk_at "dl"
      refine eq_key _ _ ?_
      walk_at "dl"
      by_cases z : kvj.1 = d.k
      · have hji : j = i := k6 j kvj hkj z
        rw [decide_eq_true z]
        walk_at "dl"
        refine LcO.of hp ?_
        rw [hacc, if_neg (by omega), if_pos (by omega), hji]
        rfl
      · have hji : j ≠ i := fun y => by rw [y, k1] at hkj; cases hkj; exact z k2
        rw [decide_eq_false z]
        walk_at "dl"
        refine LcO.of hp ?_
        rw [hacc]
        by_cases y : i < j
        · rw [if_pos y, if_pos (by omega)]
        · rw [if_neg y, if_neg (by omega)]
    · intro acc hacc
      rw [rngD_len, if_pos hi] at hacc
      subst hacc
      cases d with
      | take n k =>
        cases hdd
        walk_at "dl"
        refine neOne ?_
        walk_at "dl"
        refine needOf (isLOf hpl) ?_
        walk_at "dl"
        refine popAtOf hpl (by have : (s.parts n).length ≤ 90000 := hl; have : i < (s.parts n).length := hi; omega) (by rw [List.getElem?_map, k1]; rfl) ?_
        show ixq (.tup [dK kv.1, vM kv.2]) 1 _ _ ⟨⟩
        have T1 := MTr.pl R (n := n) (.inl hn) (gdrop (s.parts n) k) s.cnt
        rw [show gdrop (s.parts n) k = (s.parts n).eraseIdx i from k5, ← eraseIdx_map, show (s.parts n).eraseIdx i = gdrop (s.parts n) k from k5.symm] at T1
        walk_at "dl"
        refine ⟨M, s.dropP n k, kv.2, s', rfl, T1.rep, W.dropP (W.tin n hn).2, G.dropP W hn k3, hvo, hpo, ?_, fun M' S' T2 => hq M' S' (MTr.trans T1 T2)⟩
        cases ht with
        | take h1 h2 => rw [show gval (s.parts n) k = some kv.2 from k3] at h1; cases h1; exact h2
        | none h1 => rw [show gval (s.parts n) k = some kv.2 from k3] at h1; cases h1
      | put n k v =>
        cases hdd
        obtain ⟨o1, o2, o3, o4⟩ := hok
        simp only [Dp.n, Dp.k, Dp.v] at *
        walk_at "dl"
        rw [show decide (Str.ofString "put" = Str.ofString "take") = false by decide +kernel]
        walk_at "dl"
        rw [x_ixq (i := -1) (ds := [.str (Str.ofString "put"), .tup [.str (Str.ofString "t"), .int (n : Int)], dK k, vM v]) (d := vM v) (.inr (.inl rfl)) rfl]
        walk_at "dl"
        rw [show decide (Str.ofString "put" = Str.ofString "make") = false by decide +kernel, x_false, x_nx]
        cases ht with
        | put h => exact partTail R W G hn o2 o3 o4 hpo _ (.inl ⟨i, kv, rfl, k1, k3, k4⟩) h hq _ rfl _ _
      | make n k =>
        cases hdd
        obtain ⟨o1, o2, o3, o4⟩ := hok
        simp only [Dp.n, Dp.k, Dp.v] at *
        walk_at "dl"
        rw [show decide (Str.ofString "make" = Str.ofString "take") = false by decide +kernel]
        walk_at "dl"
        rw [x_ixq (i := -1) (ds := [.str (Str.ofString "make"), .tup [.str (Str.ofString "t"), .int (n : Int)], dK k]) (d := dK k) (.inr (.inl rfl)) rfl]
        walk_at "dl"
        refine partMade R W G o3 hn fun M1 S1 T1 e1 => ?_
        cases ht with
        | make h => exact partTail (s := Hs.madeIn s) (v := .th (s.many + 1)) T1.rep (W.made o3 _ _) (G.made W _ _) (List.mem_append_left _ hn) o2 ⟨by omega, Nat.le_refl _⟩ o4 hpo _ (.inl ⟨i, kv, rfl, k1, k3, k4⟩) h (fun M' S' T2 => hq M' S' (MTr.trans T1 T2)) _ rfl _ _
  · refine lcOf (fun j acc => acc = []) (by rw [rngD_len]; omega) rfl ?_ ?_
    · rintro p hp j dd acc hj rfl
      obtain ⟨rfl, hjl⟩ := rngD_get hj
      have hkj := List.getElem?_eq_getElem hjl
      generalize (s.parts d.n)[j] = kvj at hkj
      obtain ⟨x1, x2⟩ := hixk p [] j kvj hp hkj
      walk_at "dl"
      rw [Int.zero_add]
      refine ixSeq x1 x2 ?_
      show ixq (.tup [dK kvj.1, vM kvj.2]) 0 _ _ ⟨⟩
      walk_at "dl"
      refine eq_key _ _ ?_
      walk_at "dl"
      rw [decide_eq_false (k2 kvj (List.mem_of_getElem? hkj))]
      walk_at "dl"
      exact LcO.of hp trivial
    · rintro acc rfl
      cases d with
      | take n k =>
        cases hdd
        walk_at "dl"
        refine neSame (p := .list []) rfl rfl (by decide +kernel) (by decide +kernel) ?_
        walk_at "dl"
        cases ht with
        | take h1 h2 => rw [show gval (s.parts n) k = none from k1] at h1; cases h1
        | none h1 => exact hq M _ (MTr.refl R)
      | put n k v =>
        cases hdd
        obtain ⟨o1, o2, o3, o4⟩ := hok
        simp only [Dp.n, Dp.k, Dp.v] at *
        walk_at "dl"
        rw [show decide (Str.ofString "put" = Str.ofString "take") = false by decide +kernel]
        walk_at "dl"
        rw [x_ixq (i := -1) (ds := [.str (Str.ofString "put"), .tup [.str (Str.ofString "t"), .int (n : Int)], dK k, vM v]) (d := vM v) (.inr (.inl rfl)) rfl]
        walk_at "dl"
        rw [show decide (Str.ofString "put" = Str.ofString "make") = false by decide +kernel, x_false, x_nx]
        cases ht with
        | put h => exact partTail R W G hn o2 o3 o4 hpo _ (.inr ⟨rfl, k1⟩) h hq _ rfl _ _
      | make n k =>
        cases hdd
        obtain ⟨o1, o2, o3, o4⟩ := hok
        simp only [Dp.n, Dp.k, Dp.v] at *
        walk_at "dl"
        rw [show decide (Str.ofString "make" = Str.ofString "take") = false by decide +kernel]
        walk_at "dl"
        rw [x_ixq (i := -1) (ds := [.str (Str.ofString "make"), .tup [.str (Str.ofString "t"), .int (n : Int)], dK k]) (d := dK k) (.inr (.inl rfl)) rfl]
        walk_at "dl"
        refine partMade R W G o3 hn fun M1 S1 T1 e1 => ?_
        cases ht with
        | make h => exact partTail (s := Hs.madeIn s) (v := .th (s.many + 1)) T1.rep (W.made o3 _ _) (G.made W _ _) (List.mem_append_left _ hn) o2 ⟨by omega, Nat.le_refl _⟩ o4 hpo _ (.inr ⟨rfl, k1⟩) h (fun M' S' T2 => hq M' S' (MTr.trans T1 T2)) _ rfl _ _
end
end K

set_option Elab.async false
set_option linter.all false
set_option maxRecDepth 100000
namespace HM
open PySem L2 DL
/-- a deed of the asker's -/
inductive Dl where
  | new (f : Str) | hold (n : Nat) | loose (n : Nat) | part (d : K.Dp)
def Dl.d : Dl → D
  | .new f => .tup [.str "new", .str f]
  | .hold n => .tup [.str "hold", K.tD n]
  | .loose n => .tup [.str "loose", K.tD n]
  | .part d => d.d
def Hs.holdM (s : Hs) (n : Nat) : Hs := { s.up n with mine := s.mine ++ [n] }
def Hs.unheld (s : Hs) (n : Nat) : Hs := { s with outer := s.outer.erase n, mine := s.mine.erase n }
inductive Dl.R (ask : AskR) (s : Hs) : Dl → Hs → Prop where
  | new {f : Str} : Dl.R ask s (.new f) (s.made (.str f) .non)
  | hold {n : Nat} : Dl.R ask s (.hold n) (s.holdM n)
  | loose {n : Nat} {s' : Hs} : Loose ask (s.unheld n) (.th n) s' → Dl.R ask s (.loose n) s'
  | part {d : K.Dp} {s' : Hs} : K.Dp.R ask s d s' → Dl.R ask s (.part d) s'
def Dl.Ok (s : Hs) : Dl → Prop
  | .new f => s.many < 5000
  | .hold n => n ∈ s.there
  | .loose n => n ∈ s.there ∧ n ∈ s.mine ∧ n ∈ s.outer
  | .part (.take n k) => n ∈ s.there ∧ (gval (s.parts n) k).isSome = true
  | .part (.make _ _) => False
  | .part d => d.Ok s
section
variable {s : Hs} {n : Nat}
theorem Wf.holdM (w : Wf s) (n : Nat) : Wf (s.holdM n) := ⟨w.nd, w.tin, w.len, w.most, w.key, w.plen, w.pv, w.wnd, w.win, w.rnd, w.pz, w.az, w.kok⟩
theorem Wf.unheld (w : Wf s) (n : Nat) : Wf (s.unheld n) := ⟨w.nd, w.tin, w.len, w.most, w.key, w.plen, w.pv, w.wnd, w.win, w.rnd, w.pz, w.az, w.kok⟩
theorem Good.holdM (g : Good s) (hn : n ≤ s.many) : Good (s.holdM n) := by
  have h := g.up hn
  exact ⟨h.cnt, h.rnd, h.rt, h.rin, h.oin⟩
theorem Good.unheld (g : Good s) (hn : n ∈ s.outer) : GoodP (s.unheld n) (.th n) := by
  refine ⟨fun j => ?_, g.rnd, g.rt, g.rin, fun i hi => g.oin i (List.mem_of_mem_erase hi)⟩
  show s.cnt j = (((s.outer.erase n).count j + psum s.parts s.there j + psum s.parts s.rest j + one (.th n) j : Nat) : Int)
  have e := g.eq j
  unfold cntF at e
  rw [one_th]
  by_cases z : n = j
  · subst z
    have := List.count_pos_iff.mpr hn
    rw [e, List.count_erase_self, if_pos rfl]
    omega
  · rw [e, List.count_erase_of_ne (Ne.symm z), if_neg z]
    omega
end
end HM
namespace K
open PySem L2 Evl EX DL HM
section
variable {P : Program} {w : World} {K : PySem.W.Frag} {mg : Str → Option Value} {base : Heap} {CT CH : Addr}
local macro_rules | `(tactic| walk_at "dl") => `(tactic| try simp only [↓x_neg, ↓x_lcS, ↓x_lockE, ↓x_eqA, ↓x_dictD, ↓x_disp, ↓x_pNil, ↓x_pCons, ↓x_forS, ↓x_diSL, ↓x_diKeys, ↓x_lock, ↓x_dictP, ↓x_fld, ↓x_fldS, ↓x_fldA, ↓x_meth, ↓x_make, ↓x_dget, ↓x_din, ↓x_dget1, ↓x_dget2, ↓x_dpop, ↓x_dput, ↓x_listD, ↓x_sortDI, ↓x_lenD, ↓x_isiC, x_icS, x_icI, x_icB, x_icN, x_ioS, x_ioI, x_ioB, x_ioN, ↓x_gSub, ↓x_sortDL, ↓x_eqO, ↓x_ninA, x_catN, x_isBB, x_isBN, x_isBI, x_isBS, x_isBR, ↓x_seq, ↓x_nx, ↓x_pass, ↓x_brk, ↓x_cnt, ↓x_drop, ↓x_ret, ↓x_retN, ↓x_ifS, ↓x_set, ↓x_asg, ↓x_gN, ↓x_gT, ↓x_gsC, ↓x_gsN, ↓x_var, x_rdv, ↓x_c, ↓x_op, ↓x_test, x_tst, ↓x_and, ↓x_or, ↓x_not, ↓x_andV, ↓x_orV, ↓x_notV, x_tstV, ↓x_ifE, x_true, x_false, ↓x_nil, ↓x_cons, ↓x_tup, ↓x_lst, ↓x_new, ↓x_newD, ↓x_call, ↓x_cb, x_oI, x_oIc, x_oS, x_addS, x_isN, x_notN, x_eqI, x_eqS, x_eqIS, x_eqSI, x_eqNS, x_neI, x_neS, x_neB, x_eqB, x_few, x_need, ↓x_ix, x_lenS, x_ixL0, x_ixT0, x_ixT1, x_ixT2, x_ixT3, x_ixT4, x_lenL, x_lenT, x_lenC, x_listL, x_listT, x_tupL, x_tupT, x_strI, x_strS, x_int1, x_intB, x_I1, x_I2, x_cat, x_catT, ↓x_split, ↓x_for, ↓x_cut, ↓x_lc, ↓x_whl, ↓x_diL, ↓x_diT, ↓x_diS, x_itL, x_itC, x_itT, x_itS, ↓x_diR1, ↓x_diR2, ↓x_diE, x_enmL, x_enmC, ↓x_gcN, ↓x_gcT, ↓x_yes, ↓x_ml, ↓x_ms, x_strq, x_ss, x_ssc, x_ssi, ↓x_join, ↓x_aug, x_st2I, ↓x_sl, ↓x_noP, ↓x_part, x_intq, x_slL, x_slC, x_slS, ↓x_in, x_inT, x_inL, x_ninT, x_ninL, x_inN, x_inSS, x_inSI, x_inIS, x_inII, ↓x_sg, x_sgS, x_nsgS, ↓x_eqD, ↓x_inDD, x_mulS, ↓x_isi, x_isiS, x_isiI, x_isiB, x_isiN, x_isiL, x_isiT, ↓x_isTT, x_itI, x_itStr, x_itN, x_itB, x_itLst, x_itTup, ↓x_any, ↓x_all, ↓x_sum, ↓x_srtI, ↓x_srtS, ↓x_intS, ↓x_lenRf, ↓x_tupRf, ↓x_frz', x_flS, x_flI, x_flN, x_flB, x_cs_bool, x_isB_NoneType_bool, x_isB_bool_bool, x_isB_int_bool, x_isB_str_bool, x_isB_list_bool, x_isB_tuple_bool, x_isB_dict_bool, x_cs_int, x_isB_NoneType_int, x_isB_bool_int, x_isB_int_int, x_isB_str_int, x_isB_list_int, x_isB_tuple_int, x_isB_dict_int, x_cs_str, x_isB_NoneType_str, x_isB_bool_str, x_isB_int_str, x_isB_str_str, x_isB_list_str, x_isB_tuple_str, x_isB_dict_str, x_cs_list, x_isB_NoneType_list, x_isB_bool_list, x_isB_int_list, x_isB_str_list, x_isB_list_list, x_isB_tuple_list, x_isB_dict_list, x_cs_tuple, x_isB_NoneType_tuple, x_isB_bool_tuple, x_isB_int_tuple, x_isB_str_tuple, x_isB_list_tuple, x_isB_tuple_tuple, x_isB_dict_tuple, x_cs_dict, x_isB_NoneType_dict, x_isB_bool_dict, x_isB_int_dict, x_isB_str_dict, x_isB_list_dict, x_isB_tuple_dict, x_isB_dict_dict, List.all_cons, List.all_nil, Bool.and_self, Bool.or_false, Bool.or_true, Bool.false_or, Bool.true_or, wipeD, setD, DL.isNon, List.set_cons_zero, List.set_cons_succ, List.getElem?_cons_zero, List.getElem?_cons_succ, List.length_cons, List.length_nil, Nat.zero_add, List.cons_append, List.nil_append, decide_true, decide_false, Bool.not_true, Bool.not_false, true_and, and_true, startD, List.map_cons, List.map_nil, Nat.reduceSub, Nat.reduceLeDiff, Nat.zero_le, Int.reduceLT, Int.reduceLE, and_self, Nat.reduceAdd, List.replicate])
def dModelled (ask : AskR) (pot : List Nat → Nat) (x : Mx) : SpD := fun ds S k _ => ∃ (M : ML → Addr) (s : Hs) (d : Dl) (s' : Hs), ds = [.ref (M .m), d.d] ∧ MRep M x s S ∧ Wf s ∧ Good s ∧ d.Ok s ∧ s.outer.length + pot s.asked ≤ 40000 ∧ s.mine.length ≤ 40000 ∧ d.R ask s s' ∧ ∀ M' S', MTr M x s S M' x s' S' → k .non S'
theorem ok_modelled {L : Nat} {ask : AskR} {pot : List Nat → Nat} {x : Mx} {fa : Addr} {fd : FuncData} (F : Fun K "_law_modelled" "_law_modelled" s__law_modelled fa fd) (T : Txt K mg CT CH) (G__law_loosed : DefD P w K mg base L "_law_loosed" ["_law_m", "_law_value_here"] (dLoosed ask pot x)) (G__law_parted : DefD P w K mg base (L + 1) "_law_parted" ["_law_m", "_law_deed"] (dParted ask pot x)) :
    FnOk P w K mg base CX0 (L + 2) fa fd ["_law_m", "_law_deed"] (lSp K (dModelled ask pot x)) := by
  refine dok F sc__law_modelled (fun ds S q qx ⟨M, s, d, s', e, _⟩ => by rw [e]; rfl) ⟨_, fun cdv A outer s H E hr => dss_one (ds_if (dt_cmp op_eq si_eq (de_ix ix_seq (si_ix rfl) (de_var 1) (de_int) (fun _ _ => rfl)) (de_str) (nomark _))
        (dss_cons (ds_dput (hu_of hr) (de_var 0) (de_str) (de_op op_add si_add (de_dget (hu_of hr) (de_var 0) (de_str) (fun _ _ => rfl)) (de_int)))
        (dss_one (ds_dput (hu_of hr) (de_dget (hu_of hr) (de_var 0) (de_str) (fun _ _ => rfl)) (de_dget (hu_of hr) (de_var 0) (de_str) (fun _ _ => rfl)) (de_new (da_nil)))))
        (dss_one (ds_if (dt_cmp op_eq si_eq (de_ix ix_seq (si_ix rfl) (de_var 1) (de_int) (fun _ _ => rfl)) (de_str) (nomark _))
          (dss_cons (ds_expr (de_ml PySem.F.slot_list_append PySem.F.type_list_append mt_append si_app (de_dget (hu_of hr) (de_var 0) (de_str) (fun _ _ => rfl)) (da_cons (de_ix ix_seq (si_ix rfl) (de_ix ix_seq (si_ix rfl) (de_var 1) (de_int) (fun _ _ => rfl)) (de_int) (fun _ _ => rfl)) da_nil)))
          (dss_one (ds_expr (de_ml PySem.F.slot_list_append PySem.F.type_list_append mt_append si_app (de_dget (hu_of hr) (de_var 0) (de_str) (fun _ _ => rfl)) (da_cons (de_ix ix_seq (si_ix rfl) (de_ix ix_seq (si_ix rfl) (de_var 1) (de_int) (fun _ _ => rfl)) (de_int) (fun _ _ => rfl)) da_nil)))))
          (dss_one (ds_if (dt_cmp op_eq si_eq (de_ix ix_seq (si_ix rfl) (de_var 1) (de_int) (fun _ _ => rfl)) (de_str) (nomark _))
            (dss_cons (ds_expr (de_ml PySem.F.slot_list_remove PySem.F.type_list_remove mt_remove si_rem (de_dget (hu_of hr) (de_var 0) (de_str) (fun _ _ => rfl)) (da_cons (de_ix ix_seq (si_ix rfl) (de_ix ix_seq (si_ix rfl) (de_var 1) (de_int) (fun _ _ => rfl)) (de_int) (fun _ _ => rfl)) da_nil)))
            (dss_cons (ds_expr (de_ml PySem.F.slot_list_remove PySem.F.type_list_remove mt_remove si_rem (de_dget (hu_of hr) (de_var 0) (de_str) (fun _ _ => rfl)) (da_cons (de_ix ix_seq (si_ix rfl) (de_ix ix_seq (si_ix rfl) (de_var 1) (de_int) (fun _ _ => rfl)) (de_int) (fun _ _ => rfl)) da_nil)))
            (dss_one (ds_expr (de_call G__law_loosed (hr.mono (by omega)) (by rfl) (da_cons (de_var 0) (da_cons (de_ix ix_seq (si_ix rfl) (de_var 1) (de_int) (fun _ _ => rfl)) da_nil)))))))
            (dss_one (ds_expr (de_call G__law_parted (hr.mono (by omega)) (by rfl) (da_cons (de_var 0) (da_cons (de_var 1) da_nil)))))))))), fun ds S q qx ⟨M, s, d, s', hd, R, W, G, hok, hpo, hmi, ht, hq⟩ => ?_⟩
  subst hd
  cases d with
  | new f =>
    cases ht
    simp only [Dl.d]
    walk_at "dl"
    refine dgetOf (m_m R) rfl mg_many ?_
    walk_at "dl"
    refine dputOf (m_m R) rfl (by exact Nat.le_of_ble_eq_true rfl) ?_
    have ec : ((s.many : Int) + 1) = ((s.many + 1 : Nat) : Int) := by omega
    rw [ec, mp_many]
    walk_at "dl"
    refine freshOf fun p hp => ?_
    have nmp : M .m ≠ p := sto_ne put_same hp
    have npp : M .parts ≠ p := fun z => by
      have := m_parts R
      rw [z] at this
      rw [put_ne nmp.symm, this] at hp
      cases hp
    have nmq : M .m ≠ M .parts := R.ne nofun nofun nofun
    rw [put_ne nmp.symm] at hp
    walk_at "dl"
    refine dgetOf (by rw [put_ne nmp]; exact put_same) rfl mg_parts ?_
    walk_at "dl"
    refine dgetOf (by rw [put_ne nmp]; exact put_same) rfl mg_many ?_
    walk_at "dl"
    refine dputOf (kvs := plD M s.there) (by rw [put_ne npp, put_ne nmq.symm]; exact m_parts R) rfl (by unfold plD; rw [List.length_map]; have := W.len; have := W.most; omega) ?_
    rw [gput_new (plD_new fun z => by have := W.tin _ z; omega)]
    walk_at "dl"
    exact hq _ _ (MTr.made R W G (.str f) .non hp)
  | hold n =>
    cases ht
    simp only [Dl.d, tD]
    walk_at "dl"
    rw [show decide (Str.ofString "hold" = Str.ofString "new") = false by decide +kernel]
    walk_at "dl"
    refine dgetOf (m_m R) rfl mg_outer ?_
    walk_at "dl"
    refine needOf (isLOf (m_outer R)) ?_
    walk_at "dl"
    refine appOf (m_outer R) (by rw [nD_len]; omega) ?_
    rw [nD_snoc]
    have T1 := MTr.outer R (s.outer ++ [n]) (DL.fset s.cnt n (s.cnt n + 1))
    walk_at "dl"
    refine dgetOf (m_m T1.rep) rfl mg_mine ?_
    walk_at "dl"
    have hmn := m_mine T1.rep
    refine needOf (isLOf hmn) ?_
    walk_at "dl"
    refine appOf hmn (by rw [nD_len]; show s.mine.length < _; omega) ?_
    rw [nD_snoc]
    exact hq _ _ (MTr.trans T1 (MTr.mine T1.rep (s.mine ++ [n])))
  | loose n =>
    obtain ⟨o1, o2, o3⟩ := hok
    simp only [Dl.d, tD]
    walk_at "dl"
    rw [show decide (Str.ofString "loose" = Str.ofString "new") = false by decide +kernel]
    walk_at "dl"
    rw [show decide (Str.ofString "loose" = Str.ofString "hold") = false by decide +kernel]
    walk_at "dl"
    refine dgetOf (m_m R) rfl mg_mine ?_
    walk_at "dl"
    refine needOf (isLOf (m_mine' R)) ?_
    walk_at "dl"
    refine remOf (m_mine' R) (mem_cast o2) ?_
    rw [erase_cast, ← nD_ints]
    have T1 := MTr.mine R (s.mine.erase n)
    walk_at "dl"
    refine dgetOf (m_m T1.rep) rfl mg_outer ?_
    walk_at "dl"
    have hou := m_outer' T1.rep
    refine needOf (isLOf hou) ?_
    walk_at "dl"
    refine remOf hou (mem_cast o3) ?_
    rw [erase_cast, ← nD_ints]
    have T2 : MTr M x s S M x (s.unheld n) _ := MTr.trans T1 (MTr.outer T1.rep (s.outer.erase n) s.cnt)
    walk_at "dl"
    cases ht with
    | loose h =>
      refine ⟨M, s.unheld n, .th n, s', rfl, T2.rep, W.unheld n, G.unheld o3, W.tin n o1, ?_, h, fun M' S' T3 => hq M' S' (MTr.trans T2 T3)⟩
      show (s.outer.erase n).length + pot s.asked ≤ _
      have := List.length_erase_le (a := n) (l := s.outer)
      omega
  | part d =>
    cases ht with
    | part h =>
      have hd : ∃ a rest, d.d = .tup (.str a :: rest) ∧ decide (a = Str.ofString "new") = false ∧ decide (a = Str.ofString "hold") = false ∧ decide (a = Str.ofString "loose") = false := by
        cases d <;> exact ⟨_, _, rfl, by decide +kernel, by decide +kernel, by decide +kernel⟩
      obtain ⟨a, rest, e, e1, e2, e3⟩ := hd
      simp only [Dl.d]
      walk_at "dl"
      rw [e]
      walk_at "dl"
      rw [e1]
      walk_at "dl"
      rw [e2]
      walk_at "dl"
      rw [e3]
      walk_at "dl"
      refine ⟨M, s, d, s', by rw [e], R, W, G, ?_, by omega, h, hq⟩
      cases d with
      | put n k v => exact hok
      | take n k => exact hok.1
      | make n k => exact hok.elim
end
end K

set_option Elab.async false
set_option linter.all false
set_option maxRecDepth 100000
namespace DL
open PySem L2
section
variable {L : Type} [DecidableEq L] {A A' : L → Addr} {C C' : L → Option O} {S S' : Sto} {l : L} {o u : O} {p : Addr}
theorem Tr.add (T : Tr (fun _ => False) A C S A' C' S') (hp : S' p = none) (h0 : C' l = none) : Tr (fun _ => False) A C S (fun y => if y = l then p else A' y) (fun y => if y = l then some o else C' y) (put S' p o) :=
  T.trans (T.rep.new hp h0 (if_pos rfl) (fun l' h => if_neg fun z : l' = l => h (by rw [z]; exact h0)) (if_pos rfl) fun l' h => if_neg h) fun _ h => h.elim
theorem Tr.upd (T : Tr (fun _ => False) A C S A' C' S') (h : C' l = some u) : Tr (fun _ => False) A C S A' (fun y => if y = l then some o else C' y) (put S' (A' l) o) :=
  T.trans (T.rep.set h (if_pos rfl) fun l' h => if_neg h) fun _ h => h.elim
end
end DL
namespace K
open PySem L2 Evl EX DL HM
abbrev s__law_as : Stmt := top 26
abbrev N__law_as : List Str := ["_law_things", "_law_value_here"]
theorem sc__law_as : FnScope N__law_as ["_law_things", "_law_value_here"] (defScope s__law_as) := ⟨rfl, rfl, rfl, by decide +kernel, rfl, by decide +kernel, by decide +kernel⟩
abbrev s__law_back : Stmt := top 27
abbrev N__law_back : List Str := ["_law_value_here"]
theorem sc__law_back : FnScope N__law_back ["_law_value_here"] (defScope s__law_back) := ⟨rfl, rfl, rfl, by decide +kernel, rfl, by decide +kernel, by decide +kernel⟩
abbrev s__law_done : Stmt := top 28
abbrev N__law_done : List Str := ["_law_hall", "_law_things", "_law_deed", "_law_thing"]
theorem sc__law_done : FnScope N__law_done ["_law_hall", "_law_things", "_law_deed"] (defScope s__law_done) := ⟨rfl, rfl, rfl, by decide +kernel, rfl, by decide +kernel, by decide +kernel⟩
abbrev s__law_do : Stmt := top 29
abbrev N__law_do : List Str := ["_law_hall", "_law_things", "_law_m", "_law_deed", "_law_one"]
theorem sc__law_do : FnScope N__law_do ["_law_hall", "_law_things", "_law_m", "_law_deed"] (defScope s__law_do) := ⟨rfl, rfl, rfl, by decide +kernel, rfl, by decide +kernel, by decide +kernel⟩
abbrev s__law_met_things : Stmt := top 30
abbrev N__law_met_things : List Str := ["_law_things", "_law_known", "_law_n", "_law_key_here", "_law_value_here"]
theorem sc__law_met_things : FnScope N__law_met_things ["_law_things"] (defScope s__law_met_things) := ⟨rfl, rfl, rfl, by decide +kernel, rfl, by decide +kernel, by decide +kernel⟩
abbrev s__law_alike : Stmt := top 31
abbrev N__law_alike : List Str := ["_law_hall", "_law_things", "_law_m", "_law_known", "_law_n", "_law_pairs", "_law_key_here"]
theorem sc__law_alike : FnScope N__law_alike ["_law_hall", "_law_things", "_law_m"] (defScope s__law_alike) := ⟨rfl, rfl, rfl, by decide +kernel, rfl, by decide +kernel, by decide +kernel⟩
abbrev s__law_value : Stmt := top 32
abbrev N__law_value : List Str := ["_law_well_here", "_law_m", "_law_there"]
theorem sc__law_value : FnScope N__law_value ["_law_well_here", "_law_m"] (defScope s__law_value) := ⟨rfl, rfl, rfl, by decide +kernel, rfl, by decide +kernel, by decide +kernel⟩
abbrev s__law_key : Stmt := top 33
abbrev N__law_key : List Str := ["_law_well_here"]
theorem sc__law_key : FnScope N__law_key ["_law_well_here"] (defScope s__law_key) := ⟨rfl, rfl, rfl, by decide +kernel, rfl, by decide +kernel, by decide +kernel⟩
abbrev s__law_some : Stmt := top 34
abbrev N__law_some : List Str := ["_law_well_here", "_law_m", "_law_there", "_law_way", "_law_one", "_law_pairs"]
theorem sc__law_some : FnScope N__law_some ["_law_well_here", "_law_m"] (defScope s__law_some) := ⟨rfl, rfl, rfl, by decide +kernel, rfl, by decide +kernel, by decide +kernel⟩
def kv8 (p1 p2 p3 p4 p5 p6 p7 p8 p9 p10 : Addr) (b : Bool) : List (Key × D) := [(.inr (Str.ofString "parts"), .ref p1), (.inr (Str.ofString "rest"), .ref p2), (.inr (Str.ofString "outer"), .ref p3), (.inr (Str.ofString "mine"), .ref p4), (.inr (Str.ofString "ends"), .ref p5), (.inr (Str.ofString "left"), .ref p6), (.inr (Str.ofString "asked"), .ref p7), (.inr (Str.ofString "waits"), .ref p8)]
def kv9 (p1 p2 p3 p4 p5 p6 p7 p8 p9 p10 : Addr) (b : Bool) : List (Key × D) := [(.inr (Str.ofString "parts"), .ref p1), (.inr (Str.ofString "rest"), .ref p2), (.inr (Str.ofString "outer"), .ref p3), (.inr (Str.ofString "mine"), .ref p4), (.inr (Str.ofString "ends"), .ref p5), (.inr (Str.ofString "left"), .ref p6), (.inr (Str.ofString "asked"), .ref p7), (.inr (Str.ofString "waits"), .ref p8), (.inr (Str.ofString "plans"), .ref p9)]
def kv10 (p1 p2 p3 p4 p5 p6 p7 p8 p9 p10 : Addr) (b : Bool) : List (Key × D) := [(.inr (Str.ofString "parts"), .ref p1), (.inr (Str.ofString "rest"), .ref p2), (.inr (Str.ofString "outer"), .ref p3), (.inr (Str.ofString "mine"), .ref p4), (.inr (Str.ofString "ends"), .ref p5), (.inr (Str.ofString "left"), .ref p6), (.inr (Str.ofString "asked"), .ref p7), (.inr (Str.ofString "waits"), .ref p8), (.inr (Str.ofString "plans"), .ref p9), (.inr (Str.ofString "many"), .int 0)]
def kv11 (p1 p2 p3 p4 p5 p6 p7 p8 p9 p10 : Addr) (b : Bool) : List (Key × D) := [(.inr (Str.ofString "parts"), .ref p1), (.inr (Str.ofString "rest"), .ref p2), (.inr (Str.ofString "outer"), .ref p3), (.inr (Str.ofString "mine"), .ref p4), (.inr (Str.ofString "ends"), .ref p5), (.inr (Str.ofString "left"), .ref p6), (.inr (Str.ofString "asked"), .ref p7), (.inr (Str.ofString "waits"), .ref p8), (.inr (Str.ofString "plans"), .ref p9), (.inr (Str.ofString "many"), .int 0), (.inr (Str.ofString "row"), .non)]
def kv12 (p1 p2 p3 p4 p5 p6 p7 p8 p9 p10 : Addr) (b : Bool) : List (Key × D) := [(.inr (Str.ofString "parts"), .ref p1), (.inr (Str.ofString "rest"), .ref p2), (.inr (Str.ofString "outer"), .ref p3), (.inr (Str.ofString "mine"), .ref p4), (.inr (Str.ofString "ends"), .ref p5), (.inr (Str.ofString "left"), .ref p6), (.inr (Str.ofString "asked"), .ref p7), (.inr (Str.ofString "waits"), .ref p8), (.inr (Str.ofString "plans"), .ref p9), (.inr (Str.ofString "many"), .int 0), (.inr (Str.ofString "row"), .non), (.inr (Str.ofString "lasts"), .int 0)]
def kv13 (p1 p2 p3 p4 p5 p6 p7 p8 p9 p10 : Addr) (b : Bool) : List (Key × D) := [(.inr (Str.ofString "parts"), .ref p1), (.inr (Str.ofString "rest"), .ref p2), (.inr (Str.ofString "outer"), .ref p3), (.inr (Str.ofString "mine"), .ref p4), (.inr (Str.ofString "ends"), .ref p5), (.inr (Str.ofString "left"), .ref p6), (.inr (Str.ofString "asked"), .ref p7), (.inr (Str.ofString "waits"), .ref p8), (.inr (Str.ofString "plans"), .ref p9), (.inr (Str.ofString "many"), .int 0), (.inr (Str.ofString "row"), .non), (.inr (Str.ofString "lasts"), .int 0), (.inr (Str.ofString "told"), .ref p10)]
def kv14 (p1 p2 p3 p4 p5 p6 p7 p8 p9 p10 : Addr) (b : Bool) : List (Key × D) := [(.inr (Str.ofString "parts"), .ref p1), (.inr (Str.ofString "rest"), .ref p2), (.inr (Str.ofString "outer"), .ref p3), (.inr (Str.ofString "mine"), .ref p4), (.inr (Str.ofString "ends"), .ref p5), (.inr (Str.ofString "left"), .ref p6), (.inr (Str.ofString "asked"), .ref p7), (.inr (Str.ofString "waits"), .ref p8), (.inr (Str.ofString "plans"), .ref p9), (.inr (Str.ofString "many"), .int 0), (.inr (Str.ofString "row"), .non), (.inr (Str.ofString "lasts"), .int 0), (.inr (Str.ofString "told"), .ref p10), (.inr (Str.ofString "ender"), .bl b)]
section
variable {p1 p2 p3 p4 p5 p6 p7 p8 p9 p10 : Addr} {b : Bool}
theorem kv8m : gmerge [] (kv8 p1 p2 p3 p4 p5 p6 p7 p8 p9 p10 b) = kv8 p1 p2 p3 p4 p5 p6 p7 p8 p9 p10 b := rfl
theorem kvp9 : gput (kv8 p1 p2 p3 p4 p5 p6 p7 p8 p9 p10 b) (.inr (Str.ofString "plans")) (.ref p9) = kv9 p1 p2 p3 p4 p5 p6 p7 p8 p9 p10 b := rfl
theorem kvp10 : gput (kv9 p1 p2 p3 p4 p5 p6 p7 p8 p9 p10 b) (.inr (Str.ofString "many")) (.int 0) = kv10 p1 p2 p3 p4 p5 p6 p7 p8 p9 p10 b := rfl
theorem kvp11 : gput (kv10 p1 p2 p3 p4 p5 p6 p7 p8 p9 p10 b) (.inr (Str.ofString "row")) (.non) = kv11 p1 p2 p3 p4 p5 p6 p7 p8 p9 p10 b := rfl
theorem kvp12 : gput (kv11 p1 p2 p3 p4 p5 p6 p7 p8 p9 p10 b) (.inr (Str.ofString "lasts")) (.int 0) = kv12 p1 p2 p3 p4 p5 p6 p7 p8 p9 p10 b := rfl
theorem kvp13 : gput (kv12 p1 p2 p3 p4 p5 p6 p7 p8 p9 p10 b) (.inr (Str.ofString "told")) (.ref p10) = kv13 p1 p2 p3 p4 p5 p6 p7 p8 p9 p10 b := rfl
theorem kvp14 : gput (kv13 p1 p2 p3 p4 p5 p6 p7 p8 p9 p10 b) (.inr (Str.ofString "ender")) (.bl b) = kv14 p1 p2 p3 p4 p5 p6 p7 p8 p9 p10 b := rfl
end
def s0 : Hs := { many := 0, cnt := fun _ => 0, parts := fun _ => [], form := fun _ => .non, own := fun _ => .non, there := [], left := [], row := none, lasts := 0, waits := [], asked := [], rest := [], outer := [], mine := [], ends := [], told := [] }
theorem s0_wf : Wf s0 := ⟨by simp [s0], fun _ h => (by cases h), by simp [s0], by decide, fun _ => by simp [s0], fun _ => by simp [s0], fun _ _ h => (by cases h), by simp [s0], fun _ h => (by cases h), fun _ h => (by cases h), fun _ _ => rfl, fun _ h => (by cases h), fun _ _ h => (by cases h)⟩
theorem s0_good : Good s0 := ⟨fun _ => rfl, by simp [s0], fun _ h => (by cases h), fun _ h => (by cases h), fun _ h => (by cases h)⟩
section
variable {P : Program} {w : World} {K : PySem.W.Frag} {mg : Str → Option Value} {base : Heap} {CT CH : Addr}
local macro_rules | `(tactic| walk_at "dl") => `(tactic| try simp only [↓x_neg, ↓x_lcS, ↓x_lockE, ↓x_eqA, ↓x_dictD, ↓x_disp, ↓x_pNil, ↓x_pCons, ↓x_forS, ↓x_diSL, ↓x_diKeys, ↓x_lock, ↓x_dictP, ↓x_fld, ↓x_fldS, ↓x_fldA, ↓x_meth, ↓x_make, ↓x_dget, ↓x_din, ↓x_dget1, ↓x_dget2, ↓x_dpop, ↓x_dput, ↓x_listD, ↓x_sortDI, ↓x_lenD, ↓x_isiC, x_icS, x_icI, x_icB, x_icN, x_ioS, x_ioI, x_ioB, x_ioN, ↓x_gSub, ↓x_sortDL, ↓x_eqO, ↓x_ninA, x_catN, x_isBB, x_isBN, x_isBI, x_isBS, x_isBR, ↓x_seq, ↓x_nx, ↓x_pass, ↓x_brk, ↓x_cnt, ↓x_drop, ↓x_ret, ↓x_retN, ↓x_ifS, ↓x_set, ↓x_asg, ↓x_gN, ↓x_gT, ↓x_gsC, ↓x_gsN, ↓x_var, x_rdv, ↓x_c, ↓x_op, ↓x_test, x_tst, ↓x_and, ↓x_or, ↓x_not, ↓x_andV, ↓x_orV, ↓x_notV, x_tstV, ↓x_ifE, x_true, x_false, ↓x_nil, ↓x_cons, ↓x_tup, ↓x_lst, ↓x_new, ↓x_newD, ↓x_call, ↓x_cb, x_oI, x_oIc, x_oS, x_addS, x_isN, x_notN, x_eqI, x_eqS, x_eqIS, x_eqSI, x_eqNS, x_neI, x_neS, x_neB, x_eqB, x_few, x_need, ↓x_ix, x_lenS, x_ixL0, x_ixT0, x_ixT1, x_ixT2, x_ixT3, x_ixT4, x_lenL, x_lenT, x_lenC, x_listL, x_listT, x_tupL, x_tupT, x_strI, x_strS, x_int1, x_intB, x_I1, x_I2, x_cat, x_catT, ↓x_split, ↓x_for, ↓x_cut, ↓x_lc, ↓x_whl, ↓x_diL, ↓x_diT, ↓x_diS, x_itL, x_itC, x_itT, x_itS, ↓x_diR1, ↓x_diR2, ↓x_diE, x_enmL, x_enmC, ↓x_gcN, ↓x_gcT, ↓x_yes, ↓x_ml, ↓x_ms, x_strq, x_ss, x_ssc, x_ssi, ↓x_join, ↓x_aug, x_st2I, ↓x_sl, ↓x_noP, ↓x_part, x_intq, x_slL, x_slC, x_slS, ↓x_in, x_inT, x_inL, x_ninT, x_ninL, x_inN, x_inSS, x_inSI, x_inIS, x_inII, ↓x_sg, x_sgS, x_nsgS, ↓x_eqD, ↓x_inDD, x_mulS, ↓x_isi, x_isiS, x_isiI, x_isiB, x_isiN, x_isiL, x_isiT, ↓x_isTT, x_itI, x_itStr, x_itN, x_itB, x_itLst, x_itTup, ↓x_any, ↓x_all, ↓x_sum, ↓x_srtI, ↓x_srtS, ↓x_intS, ↓x_lenRf, ↓x_tupRf, ↓x_frz', x_flS, x_flI, x_flN, x_flB, x_cs_bool, x_isB_NoneType_bool, x_isB_bool_bool, x_isB_int_bool, x_isB_str_bool, x_isB_list_bool, x_isB_tuple_bool, x_isB_dict_bool, x_cs_int, x_isB_NoneType_int, x_isB_bool_int, x_isB_int_int, x_isB_str_int, x_isB_list_int, x_isB_tuple_int, x_isB_dict_int, x_cs_str, x_isB_NoneType_str, x_isB_bool_str, x_isB_int_str, x_isB_str_str, x_isB_list_str, x_isB_tuple_str, x_isB_dict_str, x_cs_list, x_isB_NoneType_list, x_isB_bool_list, x_isB_int_list, x_isB_str_list, x_isB_list_list, x_isB_tuple_list, x_isB_dict_list, x_cs_tuple, x_isB_NoneType_tuple, x_isB_bool_tuple, x_isB_int_tuple, x_isB_str_tuple, x_isB_list_tuple, x_isB_tuple_tuple, x_isB_dict_tuple, x_cs_dict, x_isB_NoneType_dict, x_isB_bool_dict, x_isB_int_dict, x_isB_str_dict, x_isB_list_dict, x_isB_tuple_dict, x_isB_dict_dict, List.all_cons, List.all_nil, Bool.and_self, Bool.or_false, Bool.or_true, Bool.false_or, Bool.true_or, wipeD, setD, DL.isNon, List.set_cons_zero, List.set_cons_succ, List.getElem?_cons_zero, List.getElem?_cons_succ, List.length_cons, List.length_nil, Nat.zero_add, List.cons_append, List.nil_append, decide_true, decide_false, Bool.not_true, Bool.not_false, true_and, and_true, startD, List.map_cons, List.map_nil, Nat.reduceSub, Nat.reduceLeDiff, Nat.zero_le, Int.reduceLT, Int.reduceLE, and_self, Nat.reduceAdd, List.replicate])
def dModel : SpD := fun ds S k _ => ∃ b : Bool, ds = [.bl b] ∧ ∀ M S', MRep M ⟨[], b⟩ s0 S' → (∀ l, mC M ⟨[], b⟩ s0 l ≠ none → S (M l) = none) → (∀ a, S a ≠ none → S' a = S a) → k (.ref (M .m)) S'
theorem ok_model {fa : Addr} {fd : FuncData} (F : Fun K "_law_model" "_law_model" s__law_model fa fd) (T : Txt K mg CT CH) : FnOk P w K mg base CX0 1 fa fd ["_law_ender"] (lSp K dModel) := by
  refine dok F sc__law_model (fun ds S q qx ⟨b, e, _⟩ => by rw [e]; rfl) ⟨_, fun cdv A outer s H E hr => dss_cons (ds_set (i := 1) sc__law_model.nd rfl (Or.inl rfl) (de_disp (dps_cons (de_str) (de_newD) (dps_cons (de_str) (de_newD) (dps_cons (de_str) (de_new (da_nil)) (dps_cons (de_str) (de_new (da_nil)) (dps_cons (de_str) (de_new (da_nil)) (dps_cons (de_str) (de_new (da_nil)) (dps_cons (de_str) (de_new (da_nil)) (dps_cons (de_str) (de_new (da_nil)) (dps_nil)))))))))))
      (dss_cons (ds_dput (hu_of hr) (de_var 1) (de_str) (de_newD))
      (dss_cons (ds_dput (hu_of hr) (de_var 1) (de_str) (de_int))
      (dss_cons (ds_dput (hu_of hr) (de_var 1) (de_str) (de_non))
      (dss_cons (ds_dput (hu_of hr) (de_var 1) (de_str) (de_int))
      (dss_cons (ds_dput (hu_of hr) (de_var 1) (de_str) (de_new (da_nil)))
      (dss_cons (ds_dput (hu_of hr) (de_var 1) (de_str) (de_var 0))
      (dss_one (ds_ret (de_var 1))))))))), fun ds S q qx ⟨b, hd, hq⟩ => ?_⟩
  subst hd
  have T0 : Tr (fun _ => False) (fun _ : ML => (0 : Addr)) (fun _ => none) S (fun _ => 0) (fun _ => none) S := ⟨⟨fun h => (by cases h), fun h => absurd rfl h⟩, fun _ _ _ => rfl, fun _ h => h, fun _ h => absurd rfl h, fun _ h => h.elim⟩
  walk_at "dl"
  refine freshOf fun p0 h0 => ?_
  have T1 := T0.add (l := .m) (o := .dct []) h0 rfl
  walk_at "dl"
  refine freshOf fun p1 h1 => ?_
  have T2 := T1.add (l := .parts) (o := .dct []) h1 rfl
  walk_at "dl"
  refine freshOf fun p2 h2 => ?_
  have T3 := T2.add (l := .rest) (o := .dct []) h2 rfl
  walk_at "dl"
  refine freshOf fun p3 h3 => ?_
  have T4 := T3.add (l := .outer) (o := .lst []) h3 rfl
  walk_at "dl"
  refine freshOf fun p4 h4 => ?_
  have T5 := T4.add (l := .mine) (o := .lst []) h4 rfl
  walk_at "dl"
  refine freshOf fun p5 h5 => ?_
  have T6 := T5.add (l := .ends) (o := .lst []) h5 rfl
  walk_at "dl"
  refine freshOf fun p6 h6 => ?_
  have T7 := T6.add (l := .left) (o := .lst []) h6 rfl
  walk_at "dl"
  refine freshOf fun p7 h7 => ?_
  have T8 := T7.add (l := .asked) (o := .lst []) h7 rfl
  walk_at "dl"
  refine freshOf fun p8 h8 => ?_
  have T9 := T8.add (l := .waits) (o := .lst []) h8 rfl
  walk_at "dl"
  refine needOf (T9.rep.at_ (l := .m) rfl) ?_
  refine ⟨kv8 p1 p2 p3 p4 p5 p6 p7 p8 p8 p8 b, rfl, Nat.le_of_ble_eq_true rfl, ?_⟩
  rw [kv8m]
  have T10 := T9.upd (l := .m) (o := .dct (kv8 p1 p2 p3 p4 p5 p6 p7 p8 p8 p8 b)) rfl
  walk_at "dl"
  refine freshOf fun p9 h9 => ?_
  have T11 := T10.add (l := .plans) (o := .dct []) h9 rfl
  walk_at "dl"
  refine dputOf (kvs := kv8 p1 p2 p3 p4 p5 p6 p7 p8 p9 p9 b) (T11.rep.at_ (l := .m) rfl) rfl (Nat.le_of_ble_eq_true rfl) ?_
  rw [kvp9]
  have T12 := T11.upd (l := .m) (o := .dct (kv9 p1 p2 p3 p4 p5 p6 p7 p8 p9 p9 b)) rfl
  walk_at "dl"
  refine dputOf (kvs := kv9 p1 p2 p3 p4 p5 p6 p7 p8 p9 p9 b) (T12.rep.at_ (l := .m) rfl) rfl (Nat.le_of_ble_eq_true rfl) ?_
  rw [kvp10]
  have T13 := T12.upd (l := .m) (o := .dct (kv10 p1 p2 p3 p4 p5 p6 p7 p8 p9 p9 b)) rfl
  walk_at "dl"
  refine dputOf (kvs := kv10 p1 p2 p3 p4 p5 p6 p7 p8 p9 p9 b) (T13.rep.at_ (l := .m) rfl) rfl (Nat.le_of_ble_eq_true rfl) ?_
  rw [kvp11]
  have T14 := T13.upd (l := .m) (o := .dct (kv11 p1 p2 p3 p4 p5 p6 p7 p8 p9 p9 b)) rfl
  walk_at "dl"
  refine dputOf (kvs := kv11 p1 p2 p3 p4 p5 p6 p7 p8 p9 p9 b) (T14.rep.at_ (l := .m) rfl) rfl (Nat.le_of_ble_eq_true rfl) ?_
  rw [kvp12]
  have T15 := T14.upd (l := .m) (o := .dct (kv12 p1 p2 p3 p4 p5 p6 p7 p8 p9 p9 b)) rfl
  walk_at "dl"
  refine freshOf fun p10 h10 => ?_
  have T16 := T15.add (l := .told) (o := .lst []) h10 rfl
  walk_at "dl"
  refine dputOf (kvs := kv12 p1 p2 p3 p4 p5 p6 p7 p8 p9 p10 b) (T16.rep.at_ (l := .m) rfl) rfl (Nat.le_of_ble_eq_true rfl) ?_
  rw [kvp13]
  have T17 := T16.upd (l := .m) (o := .dct (kv13 p1 p2 p3 p4 p5 p6 p7 p8 p9 p10 b)) rfl
  walk_at "dl"
  refine dputOf (kvs := kv13 p1 p2 p3 p4 p5 p6 p7 p8 p9 p10 b) (T17.rep.at_ (l := .m) rfl) rfl (Nat.le_of_ble_eq_true rfl) ?_
  rw [kvp14]
  have T18 := T17.upd (l := .m) (o := .dct (kv14 p1 p2 p3 p4 p5 p6 p7 p8 p9 p10 b)) rfl
  walk_at "dl"
  have fin : ∀ {A : ML → Addr} {C : ML → Option O} {S' : Sto}, Tr (fun _ => False) (fun _ : ML => (0 : Addr)) (fun _ => none) S A C S' → (∀ l, mC A ⟨[], b⟩ s0 l = C l) → q (.ref (A .m)) S' := fun {A C S'} T h => by
    have e : mC A ⟨[], b⟩ s0 = C := funext h
    refine hq A S' (by show Rep A (mC A ⟨[], b⟩ s0) S'; rw [e]; exact T.rep) (fun l hl => ?_) fun a ha => T.fr a ha fun l hl => absurd rfl hl
    rw [e] at hl
    exact (T.ext l hl).elim (fun z => absurd rfl z.1) id
  exact fin T18 fun l => by cases l <;> rfl
end
end K

set_option Elab.async false
set_option linter.all false
set_option maxRecDepth 100000
namespace K
open PySem L2 Evl EX DL HM
def K6 : List Key := [.inr "a", .inr "b", .inr "name", .inl 0, .inl 1, .inl 7]
theorem k6_any {k : Key} (h : k ∈ K6) : (dK k).any = true := by
  simp only [K6, List.mem_cons, List.not_mem_nil, or_false] at h
  rcases h with rfl | rfl | rfl | rfl | rfl | rfl <;> first | rfl | decide +kernel
/-- a deed as it is drawn -/
def Pre (s : Hs) : Dl → Prop
  | .new f => True
  | .hold n => n ∈ s.there
  | .loose n => n ∈ s.mine
  | .part (.take n k) => n ∈ s.there ∧ (gval (s.parts n) k).isSome = true
  | .part (.put n k v) => n ∈ s.there ∧ k ∈ K6 ∧ VOk s.many v
  | .part (.make _ _) => False
section
variable {P : Program} {w : World} {K : PySem.W.Frag} {mg : Str → Option Value} {base : Heap} {CT CH : Addr}
local macro_rules | `(tactic| walk_at "dl") => `(tactic| try simp only [↓x_neg, ↓x_lcS, ↓x_lockE, ↓x_eqA, ↓x_dictD, ↓x_disp, ↓x_pNil, ↓x_pCons, ↓x_forS, ↓x_diSL, ↓x_diKeys, ↓x_lock, ↓x_dictP, ↓x_fld, ↓x_fldS, ↓x_fldA, ↓x_meth, ↓x_make, ↓x_dget, ↓x_din, ↓x_dget1, ↓x_dget2, ↓x_dpop, ↓x_dput, ↓x_listD, ↓x_sortDI, ↓x_lenD, ↓x_isiC, x_icS, x_icI, x_icB, x_icN, x_ioS, x_ioI, x_ioB, x_ioN, ↓x_gSub, ↓x_sortDL, ↓x_eqO, ↓x_ninA, x_catN, x_isBB, x_isBN, x_isBI, x_isBS, x_isBR, ↓x_seq, ↓x_nx, ↓x_pass, ↓x_brk, ↓x_cnt, ↓x_drop, ↓x_ret, ↓x_retN, ↓x_ifS, ↓x_set, ↓x_asg, ↓x_gN, ↓x_gT, ↓x_gsC, ↓x_gsN, ↓x_var, x_rdv, ↓x_c, ↓x_op, ↓x_test, x_tst, ↓x_and, ↓x_or, ↓x_not, ↓x_andV, ↓x_orV, ↓x_notV, x_tstV, ↓x_ifE, x_true, x_false, ↓x_nil, ↓x_cons, ↓x_tup, ↓x_lst, ↓x_new, ↓x_newD, ↓x_call, ↓x_cb, x_oI, x_oIc, x_oS, x_addS, x_isN, x_notN, x_eqI, x_eqS, x_eqIS, x_eqSI, x_eqNS, x_neI, x_neS, x_neB, x_eqB, x_few, x_need, ↓x_ix, x_lenS, x_ixL0, x_ixT0, x_ixT1, x_ixT2, x_ixT3, x_ixT4, x_lenL, x_lenT, x_lenC, x_listL, x_listT, x_tupL, x_tupT, x_strI, x_strS, x_int1, x_intB, x_I1, x_I2, x_cat, x_catT, ↓x_split, ↓x_for, ↓x_cut, ↓x_lc, ↓x_whl, ↓x_diL, ↓x_diT, ↓x_diS, x_itL, x_itC, x_itT, x_itS, ↓x_diR1, ↓x_diR2, ↓x_diE, x_enmL, x_enmC, ↓x_gcN, ↓x_gcT, ↓x_yes, ↓x_ml, ↓x_ms, x_strq, x_ss, x_ssc, x_ssi, ↓x_join, ↓x_aug, x_st2I, ↓x_sl, ↓x_noP, ↓x_part, x_intq, x_slL, x_slC, x_slS, ↓x_in, x_inT, x_inL, x_ninT, x_ninL, x_inN, x_inSS, x_inSI, x_inIS, x_inII, ↓x_sg, x_sgS, x_nsgS, ↓x_eqD, ↓x_inDD, x_mulS, ↓x_isi, x_isiS, x_isiI, x_isiB, x_isiN, x_isiL, x_isiT, ↓x_isTT, x_itI, x_itStr, x_itN, x_itB, x_itLst, x_itTup, ↓x_any, ↓x_all, ↓x_sum, ↓x_srtI, ↓x_srtS, ↓x_intS, ↓x_lenRf, ↓x_tupRf, ↓x_frz', x_flS, x_flI, x_flN, x_flB, x_cs_bool, x_isB_NoneType_bool, x_isB_bool_bool, x_isB_int_bool, x_isB_str_bool, x_isB_list_bool, x_isB_tuple_bool, x_isB_dict_bool, x_cs_int, x_isB_NoneType_int, x_isB_bool_int, x_isB_int_int, x_isB_str_int, x_isB_list_int, x_isB_tuple_int, x_isB_dict_int, x_cs_str, x_isB_NoneType_str, x_isB_bool_str, x_isB_int_str, x_isB_str_str, x_isB_list_str, x_isB_tuple_str, x_isB_dict_str, x_cs_list, x_isB_NoneType_list, x_isB_bool_list, x_isB_int_list, x_isB_str_list, x_isB_list_list, x_isB_tuple_list, x_isB_dict_list, x_cs_tuple, x_isB_NoneType_tuple, x_isB_bool_tuple, x_isB_int_tuple, x_isB_str_tuple, x_isB_list_tuple, x_isB_tuple_tuple, x_isB_dict_tuple, x_cs_dict, x_isB_NoneType_dict, x_isB_bool_dict, x_isB_int_dict, x_isB_str_dict, x_isB_list_dict, x_isB_tuple_dict, x_isB_dict_dict, List.all_cons, List.all_nil, Bool.and_self, Bool.or_false, Bool.or_true, Bool.false_or, Bool.true_or, wipeD, setD, DL.isNon, List.set_cons_zero, List.set_cons_succ, List.getElem?_cons_zero, List.getElem?_cons_succ, List.length_cons, List.length_nil, Nat.zero_add, List.cons_append, List.nil_append, decide_true, decide_false, Bool.not_true, Bool.not_false, true_and, and_true, startD, List.map_cons, List.map_nil, Nat.reduceSub, Nat.reduceLeDiff, Nat.zero_le, Int.reduceLT, Int.reduceLE, and_self, Nat.reduceAdd, List.replicate])
def dKey : SpD := fun ds S k _ => ∃ w : Addr, ds = [.ref w] ∧ Well S w ∧ ∀ ky S', ky ∈ K6 → Well S' w → (∀ x, x ≠ w → S' x = S x) → k (dK ky) S'
theorem ok_key {fa : Addr} {fd : FuncData} (F : Fun K "_law_key" "_law_key" s__law_key fa fd) (T : Txt K mg CT CH) (G__law_dig : DefD P w K mg base 2 "_law_dig" ["_law_well_here", "_law_most"] dDig) : FnOk P w K mg base CX0 3 fa fd ["_law_well_here"] (lSp K dKey) := by
  refine dok F sc__law_key (fun ds S q qx ⟨w, e, _⟩ => by rw [e]; rfl) ⟨_, fun cdv A outer s H E hr => dss_one (ds_ret (de_ix ix_seq (si_ix rfl) (de_lst (da_cons (de_str) (da_cons (de_str) (da_cons (de_str) (da_cons (de_int) (da_cons (de_int) (da_cons (de_int) da_nil))))))) (de_call G__law_dig (hr.mono (by decide)) (by rfl) (da_cons (de_var 0) (da_cons (de_int) da_nil))) (fun _ _ => rfl))), fun ds S q qx ⟨w, hd, hw, hq⟩ => ?_⟩
  subst hd
  walk_at "dl"
  refine ⟨w, 6, rfl, hw, by decide, by decide, fun r S1 hr hw1 f1 => ?_⟩
  walk_at "dl"
  have : ∃ ky ∈ K6, [D.str (Str.ofString "a"), .str (Str.ofString "b"), .str (Str.ofString "name"), .int 0, .int 1, .int 7][r]? = some (dK ky) := by
    rcases r with _ | _ | _ | _ | _ | _ | r
    · exact ⟨.inr "a", by simp [K6], rfl⟩
    · exact ⟨.inr "b", by simp [K6], rfl⟩
    · exact ⟨.inr "name", by simp [K6], rfl⟩
    · exact ⟨.inl 0, by simp [K6], rfl⟩
    · exact ⟨.inl 1, by simp [K6], rfl⟩
    · exact ⟨.inl 7, by simp [K6], rfl⟩
    · omega
  obtain ⟨ky, h1, h2⟩ := this
  exact ixAt (.inl rfl) h2 (hq ky S1 h1 hw1 f1)
open Classical in
theorem neInts {S : Sto} {k : DK} {ys : List Int} (q : k (.bl (decide (ys ≠ []))) S) : st2 (oEqD true) (.list (ys.map D.int)) (.list []) S k ⟨⟩ := by
  refine neDOf (p := .list (ys.map D.int)) (q := .list []) rfl rfl ?_ rfl (Nat.le_trans (Nat.min_le_right _ _) (by decide)) ?_
  · simp only [D.nb, D.nbG]
    exact (nbL_iff _).mpr fun d hd => by obtain ⟨n, _, rfl⟩ := List.mem_map.mp hd; rfl
  · cases ys with
    | nil =>
      have e : decide (D.list (List.map D.int []) = D.list []) = true := decide_eq_true rfl
      rw [e]
      rw [show decide (([] : List Int) ≠ []) = false from decide_eq_false (fun h => h rfl)] at q
      exact q
    | cons a l => rw [decide_eq_false (by exact nofun)]; rw [show decide (a :: l ≠ []) = true from decide_eq_true (by exact nofun)] at q; exact q
theorem ints_any (ys : List Int) : (D.list (ys.map D.int)).any = true := by
  rw [D.any]
  induction ys with
  | nil => rfl
  | cons a l ih => rw [List.map_cons, anyL, ih]; rfl
theorem eqIntsA {S : Sto} {k : DK} {ys : List Int} (q : k (.bl (decide (ys = []))) S) : st2 (oEqA false) (.list (ys.map D.int)) (.list []) S k ⟨⟩ := by
  refine eqAOf (b := decide (ys = [])) rfl rfl (ints_any ys) rfl (Nat.le_trans (Nat.min_le_right _ _) (Nat.le_of_ble_eq_true rfl)) ?_ q
  cases ys with
  | nil => exact eqv_refl (.list [])
  | cons a l => exact eqv_nil
theorem sortOf {S : Sto} {k : DK} {M : ML → Addr} {x : Mx} {s : Hs} (R : MRep M x s S) (W : Wf s) (q : ∀ ys : List Int, ys.Perm (s.there.map fun n : Nat => (n : Int)) → ys.Pairwise (· ≤ ·) → k (.list (ys.map D.int)) S) : stC oSortDL [.ref (M .parts)] S k ⟨⟩ :=
  ⟨plD M s.there, s.there.map fun n : Nat => (n : Int), m_parts R, by unfold plD; rw [List.map_map, List.map_map]; rfl, by rw [List.length_map]; have := W.len; have := W.most; omega, q⟩
theorem perm_at {s : Hs} {ys : List Int} {r : Nat} (pm : ys.Perm (s.there.map fun n : Nat => (n : Int))) (h : r < ys.length) : ∃ n ∈ s.there, (ys.map D.int)[r]? = some (.int ((n : Nat) : Int)) := by
  have h1 := List.getElem?_eq_getElem h
  have h2 : ys[r] ∈ s.there.map fun n : Nat => (n : Int) := pm.mem_iff.mp (List.getElem_mem h)
  obtain ⟨n, hn, e⟩ := List.mem_map.mp h2
  exact ⟨n, hn, by rw [List.getElem?_map, h1, ← e]; rfl⟩
/-- the law's own store beside the well -/
theorem m_keep {M : ML → Addr} {x : Mx} {s : Hs} {S S' : Sto} {w : Addr} (R : MRep M x s S) (hw : ∀ l, mC M x s l ≠ none → M l ≠ w) (f : ∀ y, y ≠ w → S' y = S y) : MRep M x s S' := ⟨fun {l o} h => by rw [f _ (hw l (nn h))]; exact R.at_ h, R.inj⟩
def dValue (x : Mx) : SpD := fun ds S k _ => ∃ (w : Addr) (M : ML → Addr) (s : Hs), ds = [.ref w, .ref (M .m)] ∧ Well S w ∧ MRep M x s S ∧ Wf s ∧ (∀ l, mC M x s l ≠ none → M l ≠ w) ∧ ∀ v S', VOk s.many v → Well S' w → (∀ y, y ≠ w → S' y = S y) → k (vM v) S'
theorem ok_value {x : Mx} {fa : Addr} {fd : FuncData} (F : Fun K "_law_value" "_law_value" s__law_value fa fd) (T : Txt K mg CT CH) (G__law_dig : DefD P w K mg base 2 "_law_dig" ["_law_well_here", "_law_most"] dDig) : FnOk P w K mg base CX0 3 fa fd ["_law_well_here", "_law_m"] (lSp K (dValue x)) := by
  refine dok F sc__law_value (fun ds S q qx ⟨w, M, s, e, _⟩ => by rw [e]; rfl) ⟨_, fun cdv A outer s H E hr => dss_cons (ds_set (i := 2) sc__law_value.nd rfl (Or.inl rfl) (de_callB (SD.call_sortedDL rfl) si_sortDL (by rfl) T.sorted (by decide +kernel) (da_cons (de_dget (hu_of hr) (de_var 1) (de_str) (fun _ _ => rfl)) da_nil)))
      (dss_cons (ds_if (PW.pt (dw_and (dt_cmp (op_neM (K := K) hr.units) (si_eqM true) (de_var 2) (de_lst (da_nil)) (nomark _)) (dw_and1 (dt_cmp op_gt si_gt (de_call G__law_dig (hr.mono (by decide)) (by rfl) (da_cons (de_var 0) (da_cons (de_int) da_nil))) (de_int) (nomark _)))))
        (dss_one (ds_ret (de_tup (da_cons (de_str) (da_cons (de_ix ix_seq (si_ix rfl) (de_var 2) (de_call G__law_dig (hr.mono (by decide)) (by rfl) (da_cons (de_var 0) (da_cons (de_callB call_len (si_len rfl) (by rfl) T.len (by decide +kernel) (da_cons (de_var 2) da_nil)) da_nil))) (fun _ _ => rfl)) da_nil)))))
        (dss_nil))
      (dss_one (ds_ret (de_ix ix_seq (si_ix rfl) (de_lst (da_cons (de_call G__law_dig (hr.mono (by decide)) (by rfl) (da_cons (de_var 0) (da_cons (de_int) da_nil))) (da_cons (de_str) (da_cons (de_bl) (da_cons (de_non) da_nil))))) (de_call G__law_dig (hr.mono (by decide)) (by rfl) (da_cons (de_var 0) (da_cons (de_int) da_nil))) (fun _ _ => rfl))))), fun ds S q qx ⟨w, M, s, hd, hw, R, W, hdis, hq⟩ => ?_⟩
  subst hd
  walk_at "dl"
  refine dgetOf (m_m R) rfl mg_parts ?_
  walk_at "dl"
  refine sortOf R W fun ys pm pw => ?_
  have tail : ∀ S1, Well S1 w → (∀ y, y ≠ w → S1 y = S y) → ∀ δ : Dst, δ[0]? = some (some (.ref w)) → dOp oIx (dLst (dCons (dCall dDig (dCons (dVar 0) (dCons (dC (D.int 9)) dNil))) (dCons (dC (D.str (Str.ofString "text"))) (dCons (dC (D.bl true)) (dCons (dC D.non) dNil))))) (dCall dDig (dCons (dVar 0) (dCons (dC (D.int 4)) dNil))) δ S1 q := fun S1 hw1 f1 δ hδ => by
    walk_at "dl"
    rw [hδ]
    walk_at "dl"
    refine ⟨w, 9, rfl, hw1, by decide, by decide, fun r S2 hr hw2 f2 => ?_⟩
    walk_at "dl"
    rw [hδ]
    walk_at "dl"
    refine ⟨w, 4, rfl, hw2, by decide, by decide, fun r2 S3 hr2 hw3 f3 => ?_⟩
    have fr : ∀ y, y ≠ w → S3 y = S y := fun y hy => by rw [f3 y hy, f2 y hy, f1 y hy]
    walk_at "dl"
    rcases r2 with _ | _ | _ | _ | r2
    · exact ixAt (j := 0) (.inl rfl) rfl (hq (.no (.int (r : Int))) S3 (NoTh.int _) hw3 fr)
    · exact ixAt (j := 1) (.inl rfl) rfl (hq (.no (.str (Str.ofString "text"))) S3 (NoTh.str _ (by decide +kernel)) hw3 fr)
    · exact ixAt (j := 2) (.inl rfl) rfl (hq (.no (.bl true)) S3 (NoTh.bl _) hw3 fr)
    · exact ixAt (j := 3) (.inl rfl) rfl (hq (.no .non) S3 NoTh.non hw3 fr)
    · omega
  walk_at "dl"
  refine neInts ?_
  walk_at "dl"
  by_cases he : ys = []
  · rw [decide_eq_false (fun z => z he)]
    walk_at "dl"
    exact tail S hw (fun _ _ => rfl) [some (.ref w), some (.ref (M .m)), some (.list (ys.map D.int))] rfl
  rw [decide_eq_true he]
  have hlen : 0 < ys.length := List.length_pos_iff.mpr he
  have hlen2 : ys.length ≤ 5000 := by
    rw [pm.length_eq, List.length_map]
    have := W.len
    have := W.most
    omega
  walk_at "dl"
  refine ⟨w, 4, rfl, hw, by decide, by decide, fun r S1 hr hw1 f1 => ?_⟩
  walk_at "dl"
  refine br (fun hb => ?_) (fun hb => ?_)
  · walk_at "dl"
    rw [List.length_map]
    refine ⟨w, _, rfl, hw1, by omega, by omega, fun r2 S2 hr2 hw2 f2 => ?_⟩
    obtain ⟨n, hn, e⟩ := perm_at pm (r := r2) (by omega)
    walk_at "dl"
    refine ixAt (.inl rfl) e ?_
    walk_at "dl"
    exact hq (.th n) S2 (W.tin n hn) hw2 fun y hy => by rw [f2 y hy, f1 y hy]
  · exact tail S1 hw1 f1 [some (.ref w), some (.ref (M .m)), some (.list (ys.map D.int))] rfl
def dSome (x : Mx) : SpD := fun ds S k _ => ∃ (w : Addr) (M : ML → Addr) (s : Hs), ds = [.ref w, .ref (M .m)] ∧ Well S w ∧ MRep M x s S ∧ Wf s ∧ s.mine.length ≤ 40000 ∧ (∀ l, mC M x s l ≠ none → M l ≠ w) ∧ ∀ d S', Pre s d → Well S' w → (∀ y, y ≠ w → S' y = S y) → k d.d S'
theorem ok_some {x : Mx} {fa : Addr} {fd : FuncData} (F : Fun K "_law_some" "_law_some" s__law_some fa fd) (T : Txt K mg CT CH) (G__law_dig : DefD P w K mg base 2 "_law_dig" ["_law_well_here", "_law_most"] dDig) (G__law_key : DefD P w K mg base 3 "_law_key" ["_law_well_here"] dKey) (G__law_value : DefD P w K mg base 3 "_law_value" ["_law_well_here", "_law_m"] (dValue x)) :
    FnOk P w K mg base CX0 4 fa fd ["_law_well_here", "_law_m"] (lSp K (dSome x)) := by
  refine dok F sc__law_some (fun ds S q qx ⟨w, M, s, e, _⟩ => by rw [e]; rfl) ⟨_, fun cdv A outer s H E hr => dss_cons (ds_set (i := 2) sc__law_some.nd rfl (Or.inl rfl) (de_callB (SD.call_sortedDL rfl) si_sortDL (by rfl) T.sorted (by decide +kernel) (da_cons (de_dget (hu_of hr) (de_var 1) (de_str) (fun _ _ => rfl)) da_nil)))
      (dss_cons (ds_set (i := 3) sc__law_some.nd rfl (Or.inl rfl) (de_call G__law_dig (hr.mono (by decide)) (by rfl) (da_cons (de_var 0) (da_cons (de_int) da_nil))))
      (dss_cons (ds_if (PW.pt (dw_or (dt_cmp (op_eqM (K := K) hr.units) (si_eqA false) (de_var 2) (de_lst (da_nil)) (nomark _)) (dw_or1 (dt_cmp op_eq si_eq (de_var 3) (de_int) (nomark _)))))
        (dss_one (ds_ret (de_tup (da_cons (de_str) (da_cons (de_ix ix_seq (si_ix rfl) (de_lst (da_cons (de_str) (da_cons (de_str) (da_cons (de_str) da_nil)))) (de_call G__law_dig (hr.mono (by decide)) (by rfl) (da_cons (de_var 0) (da_cons (de_int) da_nil))) (fun _ _ => rfl)) da_nil)))))
        (dss_nil))
      (dss_cons (ds_set (i := 4) sc__law_some.nd rfl (Or.inl rfl) (de_tup (da_cons (de_str) (da_cons (de_ix ix_seq (si_ix rfl) (de_var 2) (de_call G__law_dig (hr.mono (by decide)) (by rfl) (da_cons (de_var 0) (da_cons (de_callB call_len (si_len rfl) (by rfl) T.len (by decide +kernel) (da_cons (de_var 2) da_nil)) da_nil))) (fun _ _ => rfl)) da_nil))))
      (dss_cons (ds_if (dt_cmp op_eq si_eq (de_var 3) (de_int) (nomark _))
        (dss_one (ds_ret (de_tup (da_cons (de_str) (da_cons (de_var 4) da_nil)))))
        (dss_nil))
      (dss_cons (ds_if (PW.pt (dw_and (dt_cmp op_lt si_lt (de_var 3) (de_int) (nomark _)) (dw_and1 (dt_cmp (op_neM (K := K) hr.units) (si_eqA true) (de_dget (hu_of hr) (de_var 1) (de_str) (fun _ _ => rfl)) (de_lst (da_nil)) (nomark _)))))
        (dss_one (ds_ret (de_tup (da_cons (de_str) (da_cons (de_tup (da_cons (de_str) (da_cons (de_ix ix_seq (si_ix rfl) (de_dget (hu_of hr) (de_var 1) (de_str) (fun _ _ => rfl)) (de_call G__law_dig (hr.mono (by decide)) (by rfl) (da_cons (de_var 0) (da_cons (de_callB call_len (si_len rfl) (by rfl) T.len (by decide +kernel) (da_cons (de_dget (hu_of hr) (de_var 1) (de_str) (fun _ _ => rfl)) da_nil)) da_nil))) (fun _ _ => rfl)) da_nil))) da_nil)))))
        (dss_nil))
      (dss_cons (ds_set (i := 5) sc__law_some.nd rfl (Or.inl rfl) (de_dget (hu_of hr) (de_dget (hu_of hr) (de_var 1) (de_str) (fun _ _ => rfl)) (de_ix ix_seq (si_ix rfl) (de_var 4) (de_int) (fun _ _ => rfl)) (fun _ _ => rfl)))
      (dss_cons (ds_if (PW.pt (dw_and (dt_cmp op_eq si_eq (de_var 3) (de_int) (nomark _)) (dw_and1 (dt_cmp (op_neM (K := K) hr.units) (si_eqA true) (de_var 5) (de_lst (da_nil)) (nomark _)))))
        (dss_one (ds_ret (de_tup (da_cons (de_str) (da_cons (de_var 4) (da_cons (de_ix ix_seq (si_ix rfl) (de_ix ix_seq (si_ix rfl) (de_var 5) (de_call G__law_dig (hr.mono (by decide)) (by rfl) (da_cons (de_var 0) (da_cons (de_callB call_len (si_len rfl) (by rfl) T.len (by decide +kernel) (da_cons (de_var 5) da_nil)) da_nil))) (fun _ _ => rfl)) (de_int) (fun _ _ => rfl)) da_nil))))))
        (dss_nil))
      (dss_one (ds_ret (de_tup (da_cons (de_str) (da_cons (de_var 4) (da_cons (de_call G__law_key (hr.mono (by decide)) (by rfl) (da_cons (de_var 0) da_nil)) (da_cons (de_call G__law_value (hr.mono (by decide)) (by rfl) (da_cons (de_var 0) (da_cons (de_var 1) da_nil))) da_nil)))))))))))))), fun ds S q qx ⟨w, M, s, hd, hw, R, W, hml, hdis, hq⟩ => ?_⟩
  subst hd
  walk_at "dl"
  refine dgetOf (m_m R) rfl mg_parts ?_
  walk_at "dl"
  refine sortOf R W fun ys pm pw => ?_
  walk_at "dl"
  refine ⟨w, 9, rfl, hw, by decide, by decide, fun way S1 hway hw1 f1 => ?_⟩
  have R1 := m_keep R hdis f1
  walk_at "dl"
  refine eqIntsA ?_
  walk_at "dl"
  have newT : ∀ S1, Well S1 w → (∀ y, y ≠ w → S1 y = S y) → ∀ (E : DEnds) (δ : Dst), E.rt = q → δ[0]? = some (some (.ref w)) → dRet (dTup (dCons (dC (D.str (Str.ofString "new"))) (dCons (dOp oIx (dLst (dCons (dC (D.str (Str.ofString "list"))) (dCons (dC (D.str (Str.ofString "being"))) (dCons (dC (D.str (Str.ofString "scope"))) dNil)))) (dCall dDig (dCons (dVar 0) (dCons (dC (D.int 3)) dNil)))) dNil))) E δ S1 := fun S1 hw1 f1 E δ hE hδ => by
    walk_at "dl"
    rw [hδ, hE]
    walk_at "dl"
    refine ⟨w, 3, rfl, hw1, by decide, by decide, fun r S2 hr hw2 f2 => ?_⟩
    have fr : ∀ y, y ≠ w → S2 y = S y := fun y hy => by rw [f2 y hy, f1 y hy]
    walk_at "dl"
    rcases r with _ | _ | _ | r
    · refine ixAt (j := 0) (.inl rfl) rfl ?_
      walk_at "dl"
      exact hq (.new (Str.ofString "list")) S2 trivial hw2 fr
    · refine ixAt (j := 1) (.inl rfl) rfl ?_
      walk_at "dl"
      exact hq (.new (Str.ofString "being")) S2 trivial hw2 fr
    · refine ixAt (j := 2) (.inl rfl) rfl ?_
      walk_at "dl"
      exact hq (.new (Str.ofString "scope")) S2 trivial hw2 fr
    · omega
  by_cases he : ys = []
  · rw [decide_eq_true he, x_true, x_true]
    exact newT S1 hw1 f1 { nx := fun _ S' => q .non S', rt := q } [some (.ref w), some (.ref (M .m)), some (.list (ys.map D.int)), some (.int (way : Int)), none, none] rfl rfl
  rw [decide_eq_false he]
  have hlen : 0 < ys.length := List.length_pos_iff.mpr he
  have hlen2 : ys.length ≤ 5000 := by
    rw [pm.length_eq, List.length_map]
    have := W.len
    have := W.most
    omega
  walk_at "dl"
  refine br (fun hb => newT S1 hw1 f1 { nx := fun _ S' => q .non S', rt := q } [some (.ref w), some (.ref (M .m)), some (.list (ys.map D.int)), some (.int (way : Int)), none, none] rfl rfl) (fun hb => ?_)
  walk_at "dl"
  rw [List.length_map]
  refine ⟨w, _, rfl, hw1, by omega, by omega, fun r2 S2 hr2 hw2 f2 => ?_⟩
  have R2 := m_keep R1 hdis f2
  have fr2 : ∀ y, y ≠ w → S2 y = S y := fun y hy => by rw [f2 y hy, f1 y hy]
  obtain ⟨n, hn, e⟩ := perm_at pm (r := r2) (by omega)
  walk_at "dl"
  refine ixAt (.inl rfl) e ?_
  walk_at "dl"
  refine br (fun hb1 => ?_) (fun hb1 => ?_)
  · walk_at "dl"
    exact hq (.hold n) S2 hn hw2 fr2
  walk_at "dl"
  have putT : ∀ S1, Well S1 w → MRep M x s S1 → (∀ y, y ≠ w → S1 y = S y) → ∀ (E : DEnds) (δ : Dst), E.rt = q → δ[0]? = some (some (.ref w)) → δ[1]? = some (some (.ref (M .m))) → δ[4]? = some (some (tD n)) → dRet (dTup (dCons (dC (D.str (Str.ofString "put"))) (dCons (dVar 4) (dCons (dCall dKey (dCons (dVar 0) dNil)) (dCons (dCall (dValue x) (dCons (dVar 0) (dCons (dVar 1) dNil))) dNil))))) E δ S1 := fun S1 hw1 R1 f1 E δ hE h0 h1 h4 => by
    walk_at "dl"
    rw [h4, hE]
    walk_at "dl"
    rw [h0]
    walk_at "dl"
    refine ⟨w, rfl, hw1, fun ky S2 hky hw2 f2 => ?_⟩
    have R2 := m_keep R1 hdis f2
    walk_at "dl"
    rw [h0]
    walk_at "dl"
    rw [h1]
    walk_at "dl"
    refine ⟨w, M, s, rfl, hw2, R2, W, hdis, fun v S3 hv hw3 f3 => ?_⟩
    walk_at "dl"
    exact hq (.part (.put n ky v)) S3 ⟨hn, hky, hv⟩ hw3 fun y hy => by rw [f3 y hy, f2 y hy, f1 y hy]
  have putE : ∀ S1, Well S1 w → MRep M x s S1 → (∀ y, y ≠ w → S1 y = S y) → ∀ z5, dRet (dTup (dCons (dC (D.str (Str.ofString "put"))) (dCons (dVar 4) (dCons (dCall dKey (dCons (dVar 0) dNil)) (dCons (dCall (dValue x) (dCons (dVar 0) (dCons (dVar 1) dNil))) dNil))))) { nx := fun _ S' => q .non S', rt := q } [some (.ref w), some (.ref (M .m)), some (.list (ys.map D.int)), some (.int (way : Int)), some (tD n), z5] S1 := fun S1 a b c z5 => putT S1 a b c _ _ rfl rfl rfl rfl
  have pairsT : ∀ δ2, δ2 = [some (.ref w), some (.ref (M .m)), some (.list (ys.map D.int)), some (.int (way : Int)), some (D.tup [.str (Str.ofString "t"), .int (n : Int)]), none] → dSeq (dSet (dDGet (dDGet (dVar 1) (dC (D.str (Str.ofString "parts")))) (dOp oIx (dVar 4) (dC (D.int 1)))) 5)
      (dSeq (dIfS (dAnd (dTest (dOp (oEq false) (dVar 3) (dC (D.int 5)))) (dTest (dOp (oEqA true) (dVar 5) (dLst dNil)))) (dRet (dTup (dCons (dC (D.str (Str.ofString "take"))) (dCons (dVar 4) (dCons (dOp oIx (dOp oIx (dVar 5) (dCall dDig (dCons (dVar 0) (dCons (dCB oLen (dCons (dVar 5) dNil)) dNil)))) (dC (D.int 0))) dNil))))) dNext)
        (dRet (dTup (dCons (dC (D.str (Str.ofString "put"))) (dCons (dVar 4) (dCons (dCall dKey (dCons (dVar 0) dNil)) (dCons (dCall (dValue x) (dCons (dVar 0) (dCons (dVar 1) dNil))) dNil))))))) { nx := fun _ S' => q .non S', rt := q } δ2 S2 := fun δ2 e2 => by
    subst e2
    have hpl := m_pl R2 (n := n) (.inl hn)
    walk_at "dl"
    refine dgetOf (m_m R2) rfl mg_parts ?_
    walk_at "dl"
    refine dgetOf (m_parts R2) rfl (plD_get hn) ?_
    walk_at "dl"
    refine br (fun h5 => ?_) (fun h5 => ?_)
    · walk_at "dl"
      cases hp : s.parts n with
      | nil =>
        rw [hp] at hpl
        refine neASame (p' := .list []) (by simp only [res]; rw [hpl]; rfl) rfl rfl (by decide) ?_
        walk_at "dl"
        exact putE S2 hw2 R2 fr2 (some (.ref (M (.pl n))))
      | cons kv l =>
        have hany := pairs_any W n
        rw [hp] at hpl hany
        refine neAOf (u := .list ((kv :: l).map pM)) (v := .list []) (by simp only [res]; rw [hpl]) rfl hany rfl (Nat.le_trans (Nat.min_le_right _ _) (by decide)) eqv_nil ?_
        walk_at "dl"
        refine lenRf hpl ?_
        walk_at "dl"
        rw [List.length_map]
        have hplen := W.plen n
        rw [hp, List.length_cons] at hplen
        refine ⟨w, _, rfl, hw2, by omega, by omega, fun r S3 hr3 hw3 f3 => ?_⟩
        have hpl3 : S3 (M (.pl n)) = some (.lst ((kv :: l).map pM)) := by rw [f3 _ (hdis (.pl n) (nn (pl_live (.inl hn))))]; exact hpl
        have hr4 : r < (kv :: l).length := by rw [List.length_cons]; omega
        have hg := List.getElem?_eq_getElem hr4
        generalize (kv :: l)[r] = kr at hg
        walk_at "dl"
        refine ixSeq (ds := (kv :: l).map pM) hpl3 (by rw [List.getElem?_map, hg]; rfl) ?_
        show ixq (.tup [dK kr.1, vM kr.2]) 0 _ _ ⟨⟩
        walk_at "dl"
        refine hq (.part (.take n kr.1)) S3 ⟨hn, ?_⟩ hw3 fun y hy => by rw [f3 y hy, fr2 y hy]
        rw [hp]
        unfold gval
        rw [Option.isSome_map, List.find?_isSome]
        exact ⟨kr, List.mem_of_getElem? hg, by simp⟩
    · walk_at "dl"
      exact putE S2 hw2 R2 fr2 (some (.ref (M (.pl n))))
  refine br (fun h5 => ?_) (fun h5 => ?_)
  · walk_at "dl"
    refine dgetOf (m_m R2) rfl mg_mine ?_
    walk_at "dl"
    by_cases hm : s.mine = []
    · have hmn := m_mine R2
      rw [hm] at hmn
      refine neASame (p' := .list []) (by simp only [res]; rw [hmn]; rfl) rfl rfl (by decide) ?_
      walk_at "dl"
      exact pairsT _ rfl
    · have hmn := m_mine R2
      obtain ⟨a, l, hal⟩ := List.exists_cons_of_ne_nil hm
      rw [hal] at hmn
      refine neAOf (u := .list (nD (a :: l))) (v := .list []) (by simp only [res]; rw [hmn]) rfl (nat_any _) rfl (Nat.le_trans (Nat.min_le_right _ _) (by decide)) eqv_nil ?_
      walk_at "dl"
      refine dgetOf (m_m R2) rfl mg_mine ?_
      walk_at "dl"
      refine dgetOf (m_m R2) rfl mg_mine ?_
      walk_at "dl"
      refine lenRf hmn ?_
      walk_at "dl"
      rw [nD_len]
      have hmlen : l.length + 1 ≤ 40000 := by rw [hal, List.length_cons] at hml; exact hml
      refine ⟨w, _, rfl, hw2, by rw [List.length_cons]; omega, by rw [List.length_cons]; omega, fun r S3 hr3 hw3 f3 => ?_⟩
      have hm3 : S3 (M .mine) = some (.lst (nD (a :: l))) := by rw [f3 _ (hdis .mine nofun)]; exact hmn
      have hr4 : r < (a :: l).length := by first | omega | (rw [List.length_cons] at hr3 ⊢; omega)
      have hg := List.getElem?_eq_getElem hr4
      generalize (a :: l)[r] = j at hg
      walk_at "dl"
      refine ixSeq (ds := nD (a :: l)) hm3 (by unfold nD; rw [List.getElem?_map, hg]; rfl) ?_
      walk_at "dl"
      refine hq (.loose j) S3 ?_ hw3 fun y hy => by rw [f3 y hy, fr2 y hy]
      show j ∈ s.mine
      rw [hal]
      exact List.mem_of_getElem? hg
  · walk_at "dl"
    exact pairsT _ rfl
end
end K

set_option Elab.async false
set_option linter.all false
set_option maxRecDepth 100000
namespace K
open PySem L2 Evl EX DL HM
/-- the asker's dict of things -/
def thD (H : HA) (m : Nat) : List (Key × D) := (List.range m).map fun i : Nat => ((.inl ((i + 1 : Nat) : Int) : Key), D.ref (H.a (.t (i + 1))))
theorem thD_succ (H : HA) (m : Nat) : thD H (m + 1) = thD H m ++ [((.inl ((m + 1 : Nat) : Int) : Key), D.ref (H.a (.t (m + 1))))] := by
  unfold thD
  rw [List.range_succ, List.map_append]
  rfl
theorem thD_get {H : HA} {n : Nat} : ∀ {m : Nat}, 1 ≤ n → n ≤ m → gval (thD H m) (.inl (n : Int)) = some (.ref (H.a (.t n)))
  | 0, h1, h2 => by omega
  | m + 1, h1, h2 => by
    rw [thD_succ]
    by_cases z : n = m + 1
    · subst z
      unfold gval
      rw [List.find?_append]
      have : (thD H m).find? (fun kv => decide (kv.1 = Sum.inl ((m + 1 : Nat) : Int))) = none := List.find?_eq_none.mpr fun kv hk => by
        obtain ⟨i, hi, rfl⟩ := List.mem_map.mp hk
        have := List.mem_range.mp hi
        rw [decide_eq_true_iff]
        intro y
        have := Sum.inl.inj y
        omega
      rw [this]
      simp
    · have := thD_get (H := H) (m := m) h1 (by omega)
      unfold gval at this ⊢
      rw [List.find?_append]
      cases e : (thD H m).find? (fun kv => decide (kv.1 = Sum.inl (n : Int))) with
      | none => rw [e] at this; cases this
      | some kv => rw [e] at this; exact this
theorem thD_none {H : HA} {m n : Nat} (h : ¬ (1 ≤ n ∧ n ≤ m)) : gval (thD H m) (.inl (n : Int)) = none := by
  unfold gval
  rw [Option.map_eq_none_iff, List.find?_eq_none]
  intro kv hk
  obtain ⟨i, hi, rfl⟩ := List.mem_map.mp hk
  have := List.mem_range.mp hi
  rw [decide_eq_true_iff]
  intro y
  have := Sum.inl.inj y
  omega
theorem thD_congr {H H' : HA} {m : Nat} (h : ∀ n, 1 ≤ n → n ≤ m → H'.a (.t n) = H.a (.t n)) : thD H' m = thD H m := by
  unfold thD
  refine List.map_congr_left fun i hi => ?_
  have := List.mem_range.mp hi
  rw [h (i + 1) (by omega) (by omega)]
section
variable {P : Program} {w : World} {K : PySem.W.Frag} {mg : Str → Option Value} {base : Heap} {CT CH : Addr} {en : D}
local macro_rules | `(tactic| walk_at "dl") => `(tactic| try simp only [↓x_neg, ↓x_lcS, ↓x_lockE, ↓x_eqA, ↓x_dictD, ↓x_disp, ↓x_pNil, ↓x_pCons, ↓x_forS, ↓x_diSL, ↓x_diKeys, ↓x_lock, ↓x_dictP, ↓x_fld, ↓x_fldS, ↓x_fldA, ↓x_meth, ↓x_make, ↓x_dget, ↓x_din, ↓x_dget1, ↓x_dget2, ↓x_dpop, ↓x_dput, ↓x_listD, ↓x_sortDI, ↓x_lenD, ↓x_isiC, x_icS, x_icI, x_icB, x_icN, x_ioS, x_ioI, x_ioB, x_ioN, ↓x_gSub, ↓x_sortDL, ↓x_eqO, ↓x_ninA, x_catN, x_isBB, x_isBN, x_isBI, x_isBS, x_isBR, ↓x_seq, ↓x_nx, ↓x_pass, ↓x_brk, ↓x_cnt, ↓x_drop, ↓x_ret, ↓x_retN, ↓x_ifS, ↓x_set, ↓x_asg, ↓x_gN, ↓x_gT, ↓x_gsC, ↓x_gsN, ↓x_var, x_rdv, ↓x_c, ↓x_op, ↓x_test, x_tst, ↓x_and, ↓x_or, ↓x_not, ↓x_andV, ↓x_orV, ↓x_notV, x_tstV, ↓x_ifE, x_true, x_false, ↓x_nil, ↓x_cons, ↓x_tup, ↓x_lst, ↓x_new, ↓x_newD, ↓x_call, ↓x_cb, x_oI, x_oIc, x_oS, x_addS, x_isN, x_notN, x_eqI, x_eqS, x_eqIS, x_eqSI, x_eqNS, x_neI, x_neS, x_neB, x_eqB, x_few, x_need, ↓x_ix, x_lenS, x_ixL0, x_ixT0, x_ixT1, x_ixT2, x_ixT3, x_ixT4, x_lenL, x_lenT, x_lenC, x_listL, x_listT, x_tupL, x_tupT, x_strI, x_strS, x_int1, x_intB, x_I1, x_I2, x_cat, x_catT, ↓x_split, ↓x_for, ↓x_cut, ↓x_lc, ↓x_whl, ↓x_diL, ↓x_diT, ↓x_diS, x_itL, x_itC, x_itT, x_itS, ↓x_diR1, ↓x_diR2, ↓x_diE, x_enmL, x_enmC, ↓x_gcN, ↓x_gcT, ↓x_yes, ↓x_ml, ↓x_ms, x_strq, x_ss, x_ssc, x_ssi, ↓x_join, ↓x_aug, x_st2I, ↓x_sl, ↓x_noP, ↓x_part, x_intq, x_slL, x_slC, x_slS, ↓x_in, x_inT, x_inL, x_ninT, x_ninL, x_inN, x_inSS, x_inSI, x_inIS, x_inII, ↓x_sg, x_sgS, x_nsgS, ↓x_eqD, ↓x_inDD, x_mulS, ↓x_isi, x_isiS, x_isiI, x_isiB, x_isiN, x_isiL, x_isiT, ↓x_isTT, x_itI, x_itStr, x_itN, x_itB, x_itLst, x_itTup, ↓x_any, ↓x_all, ↓x_sum, ↓x_srtI, ↓x_srtS, ↓x_intS, ↓x_lenRf, ↓x_tupRf, ↓x_frz', x_flS, x_flI, x_flN, x_flB, x_cs_bool, x_isB_NoneType_bool, x_isB_bool_bool, x_isB_int_bool, x_isB_str_bool, x_isB_list_bool, x_isB_tuple_bool, x_isB_dict_bool, x_cs_int, x_isB_NoneType_int, x_isB_bool_int, x_isB_int_int, x_isB_str_int, x_isB_list_int, x_isB_tuple_int, x_isB_dict_int, x_cs_str, x_isB_NoneType_str, x_isB_bool_str, x_isB_int_str, x_isB_str_str, x_isB_list_str, x_isB_tuple_str, x_isB_dict_str, x_cs_list, x_isB_NoneType_list, x_isB_bool_list, x_isB_int_list, x_isB_str_list, x_isB_list_list, x_isB_tuple_list, x_isB_dict_list, x_cs_tuple, x_isB_NoneType_tuple, x_isB_bool_tuple, x_isB_int_tuple, x_isB_str_tuple, x_isB_list_tuple, x_isB_tuple_tuple, x_isB_dict_tuple, x_cs_dict, x_isB_NoneType_dict, x_isB_bool_dict, x_isB_int_dict, x_isB_str_dict, x_isB_list_dict, x_isB_tuple_dict, x_isB_dict_dict, List.all_cons, List.all_nil, Bool.and_self, Bool.or_false, Bool.or_true, Bool.false_or, Bool.true_or, wipeD, setD, DL.isNon, List.set_cons_zero, List.set_cons_succ, List.getElem?_cons_zero, List.getElem?_cons_succ, List.length_cons, List.length_nil, Nat.zero_add, List.cons_append, List.nil_append, decide_true, decide_false, Bool.not_true, Bool.not_false, true_and, and_true, startD, List.map_cons, List.map_nil, Nat.reduceSub, Nat.reduceLeDiff, Nat.zero_le, Int.reduceLT, Int.reduceLE, and_self, Nat.reduceAdd, List.replicate])
def dAs : SpD := fun ds S k _ => ∃ (H : HA) (m : Nat) (th : Addr) (v : Vl), ds = [.ref th, vM v] ∧ S th = some (.dct (thD H m)) ∧ VOk m v ∧ k (vD H v) S
theorem ok_as {fa : Addr} {fd : FuncData} (F : Fun K "_law_as" "_law_as" s__law_as fa fd) (T : Txt K mg CT CH) : FnOk P w K mg base CX0 1 fa fd ["_law_things", "_law_value_here"] (lSp K dAs) := by
  refine dok F sc__law_as (fun ds S q qx ⟨H, m, th, v, e, _⟩ => by rw [e]; rfl) ⟨_, fun cdv A outer s H E hr => dss_one (ds_ret (de_if (dt_val (de_callB (clIsi' (K := K)) si_isi (by rfl) T.isinstance (by decide +kernel) (da_cons (de_var 1) (da_cons (de_blt (n := "tuple") (by rfl) T.tuple (by decide +kernel)) da_nil)))) (de_dget (hu_of hr) (de_var 0) (de_ix ix_seq (si_ix rfl) (de_var 1) (de_int) (fun _ _ => rfl)) (fun _ _ => rfl)) (de_var 1))), fun ds S q qx ⟨H, m, th, v, hd, ht, hv, hq⟩ => ?_⟩
  subst hd
  cases v with
  | no d =>
    walk_at "dl"
    simp only [vM]
    refine isi_no hv ?_
    walk_at "dl"
    exact hq
  | th n =>
    walk_at "dl"
    simp only [vM]
    walk_at "dl"
    exact dgetOf ht rfl (thD_get hv.1 hv.2) hq
/-- the things alone -/
def HRepX (CT : Addr) (H : HA) (s : Hs) (S : Sto) : Prop := ∀ n, 1 ≤ n → n ≤ s.many → S (H.a (.t n)) = some (.ins CT (H.dt n) (thFs (s.form n) (.int (n : Int)) (.int (s.cnt n)) (.ref (H.a (.pd n))) (s.own n) (.bl (decide (n ∈ s.asked))) (.bl (decide (n ∈ s.waits)))))
def dBack (CT : Addr) : SpD := fun ds S k _ => ∃ (H : HA) (s : Hs) (v : Vl), ds = [vD H v] ∧ HRepX CT H s S ∧ VOk s.many v ∧ k (vM v) S
theorem ok_back {fa : Addr} {fd : FuncData} (F : Fun K "_law_back" "_law_back" s__law_back fa fd) (T : Txt K mg CT CH) : FnOk P w K mg base CX0 1 fa fd ["_law_value_here"] (lSp K (dBack CT)) := by
  refine dok F sc__law_back (fun ds S q qx ⟨H, s, v, e, _⟩ => by rw [e]; rfl) ⟨_, fun cdv A outer s H E hr => dss_one (ds_ret (de_if (dt_val (de_callB (clIsi' (K := K)) (si_isiC T.ThingI) (by rfl) T.isinstance (by decide +kernel) (da_cons (de_var 0) (da_cons (de_gl (by rfl) T.Thing) da_nil)))) (de_tup (da_cons (de_str) (da_cons (de_fld T.Thing_ (by decide +kernel) (de_var 0)) da_nil))) (de_var 0))), fun ds S q qx ⟨H, s, v, hd, R, hv, hq⟩ => ?_⟩
  subst hd
  cases v with
  | no d =>
    have hn : NoTh d := hv
    walk_at "dl"
    cases hn <;> (simp only [vD]; walk_at "dl"; exact hq)
  | th n =>
    have e := R n hv.1 hv.2
    walk_at "dl"
    simp only [vD]
    rw [x_own e]
    walk_at "dl"
    refine fldOf e th_number ?_
    walk_at "dl"
    exact hq
def dDone (CT CH : Addr) (en : D) (ask : AskR) : SpD := fun ds S k _ => ∃ (H : HA) (s : Hs) (th : Addr) (d : Dl) (s' : Hs), ds = [.ref (H.a .hall), .ref th, d.d] ∧ HRep CT CH en H s S ∧ Wf s ∧ d.Ok s ∧ S th = some (.dct (thD H s.many)) ∧ (∀ l, hC CT CH en H s l ≠ none → th ≠ H.a l) ∧ d.R ask s s' ∧ ((∀ f, d ≠ .new f) → s'.many = s.many) ∧
  ∀ H' S', HTr CT CH en H s S H' s' S' → k .non (put S' th (.dct (thD H' s'.many)))
theorem ok_done {L : Nat} {ask : AskR} (KA : AskOk ask) (hL : 3 ≤ L) {fa : Addr} {fd : FuncData} (F : Fun K "_law_done" "_law_done" s__law_done fa fd) (T : Txt K mg CT CH) (G_Hall_make : MDef P w K mg base 3 CH "make" ["self", "form", "own"] (lSp K (dMake CT CH en))) (G_Hall_hold : MDef P w K mg base 1 CH "hold" ["self", "value"] (lSp K (dHold CT CH en)))
    (G_Hall_loose : MDef P w K mg base L CH "loose" ["self", "value"] (lSp K (dLoose CT CH en ask))) (G_Hall_put : MDef P w K mg base (L + 1) CH "put" ["self", "thing", "key", "value"] (lSp K (dPut CT CH en ask))) (G_Hall_take : MDef P w K mg base (L + 1) CH "take" ["self", "thing", "key"] (lSp K (dTake CT CH en ask))) (G__law_as : DefD P w K mg base 1 "_law_as" ["_law_things", "_law_value_here"] dAs) :
    FnOk P w K mg base CX0 (L + 2) fa fd ["_law_hall", "_law_things", "_law_deed"] (lSp K (dDone CT CH en ask)) := by
  refine dok F sc__law_done (fun ds S q qx ⟨H, s, th, d, s', e, _⟩ => by rw [e]; rfl) ⟨_, fun cdv A outer s H E hr => dss_one (ds_if (dt_cmp op_eq si_eq (de_ix ix_seq (si_ix rfl) (de_var 2) (de_int) (fun _ _ => rfl)) (de_str) (nomark _))
        (dss_cons (ds_set (i := 3) sc__law_done.nd rfl (Or.inl rfl) (de_meth T.Hall_ G_Hall_make (hr.mono (by omega)) (de_var 0) (da_cons (de_ix ix_seq (si_ix rfl) (de_var 2) (de_int) (fun _ _ => rfl)) (da_cons (de_non) da_nil))))
        (dss_one (ds_dput (hu_of hr) (de_var 1) (de_fld T.Thing_ (by decide +kernel) (de_var 3)) (de_var 3))))
        (dss_one (ds_if (dt_cmp op_eq si_eq (de_ix ix_seq (si_ix rfl) (de_var 2) (de_int) (fun _ _ => rfl)) (de_str) (nomark _))
          (dss_one (ds_expr (de_meth T.Hall_ G_Hall_hold (hr.mono (by omega)) (de_var 0) (da_cons (de_dget (hu_of hr) (de_var 1) (de_ix ix_seq (si_ix rfl) (de_ix ix_seq (si_ix rfl) (de_var 2) (de_int) (fun _ _ => rfl)) (de_int) (fun _ _ => rfl)) (fun _ _ => rfl)) da_nil))))
          (dss_one (ds_if (dt_cmp op_eq si_eq (de_ix ix_seq (si_ix rfl) (de_var 2) (de_int) (fun _ _ => rfl)) (de_str) (nomark _))
            (dss_one (ds_expr (de_meth T.Hall_ G_Hall_loose (hr.mono (by omega)) (de_var 0) (da_cons (de_dget (hu_of hr) (de_var 1) (de_ix ix_seq (si_ix rfl) (de_ix ix_seq (si_ix rfl) (de_var 2) (de_int) (fun _ _ => rfl)) (de_int) (fun _ _ => rfl)) (fun _ _ => rfl)) da_nil))))
            (dss_one (ds_if (dt_cmp op_eq si_eq (de_ix ix_seq (si_ix rfl) (de_var 2) (de_int) (fun _ _ => rfl)) (de_str) (nomark _))
              (dss_one (ds_expr (de_meth T.Hall_ G_Hall_put (hr.mono (by omega)) (de_var 0) (da_cons (de_dget (hu_of hr) (de_var 1) (de_ix ix_seq (si_ix rfl) (de_ix ix_seq (si_ix rfl) (de_var 2) (de_int) (fun _ _ => rfl)) (de_int) (fun _ _ => rfl)) (fun _ _ => rfl)) (da_cons (de_ix ix_seq (si_ix rfl) (de_var 2) (de_int) (fun _ _ => rfl)) (da_cons (de_call G__law_as (hr.mono (by omega)) (by rfl) (da_cons (de_var 1) (da_cons (de_ix ix_seq (si_ix rfl) (de_var 2) (de_int) (fun _ _ => rfl)) da_nil))) da_nil))))))
              (dss_one (ds_if (dt_cmp op_eq si_eq (de_ix ix_seq (si_ix rfl) (de_var 2) (de_int) (fun _ _ => rfl)) (de_str) (nomark _))
                (dss_one (ds_expr (de_meth T.Hall_ G_Hall_take (hr.mono (by omega)) (de_var 0) (da_cons (de_dget (hu_of hr) (de_var 1) (de_ix ix_seq (si_ix rfl) (de_ix ix_seq (si_ix rfl) (de_var 2) (de_int) (fun _ _ => rfl)) (de_int) (fun _ _ => rfl)) (fun _ _ => rfl)) (da_cons (de_ix ix_seq (si_ix rfl) (de_var 2) (de_int) (fun _ _ => rfl)) da_nil)))))
                (dss_nil)))))))))), fun ds S q qx ⟨H, s, th, d, s', hd, R, W, hok, hth, hap, ht, hmy, hq⟩ => ?_⟩
  subst hd
  have same : ∀ {H' S'}, HTr CT CH en H s S H' s' S' → s'.many = s.many → q .non S' := fun {H' S'} T e => by
    have h1 : thD H' s'.many = thD H s.many := by rw [e]; exact thD_congr fun n a b => T.t a b
    have h2 : S' th = some (.dct (thD H s.many)) := T.tr.other hth hap
    have := hq H' S' T
    rw [h1, put_self h2] at this
    exact this
  cases d with
  | new f =>
    cases ht
    simp only [Dl.d]
    walk_at "dl"
    refine needOf (methOf (x := .non) (hrep_hall R) rfl) ?_
    walk_at "dl"
    refine ⟨H, s, f, .non, rfl, R, W, fun H' S' T1 => ?_⟩
    have e1 := hrep_t T1.rep (n := s.many + 1) (by omega) (Nat.le_refl _)
    have h2 : S' th = some (.dct (thD H s.many)) := T1.tr.other hth hap
    have h1 : thD H' s.many = thD H s.many := thD_congr fun n a b => T1.t a b
    walk_at "dl"
    refine fldOf e1 th_number ?_
    walk_at "dl"
    refine dputOf h2 rfl (by unfold thD; rw [List.length_map, List.length_range]; have := W.most; omega) ?_
    rw [gput_new (thD_none (by omega)), ← h1, ← thD_succ]
    exact hq H' S' T1
  | hold n =>
    cases ht
    have hb := W.tin n hok
    simp only [Dl.d, tD]
    walk_at "dl"
    rw [show decide (Str.ofString "hold" = Str.ofString "new") = false by decide +kernel]
    walk_at "dl"
    refine needOf (methOf (x := .non) (hrep_hall R) rfl) ?_
    walk_at "dl"
    refine dgetOf hth rfl (thD_get hb.1 hb.2) ?_
    walk_at "dl"
    exact ⟨H, s, .th n, rfl, R, hb, fun S' T1 => same (T1.trans (HTr.ghost T1.rep rfl rfl)) rfl⟩
  | loose n =>
    obtain ⟨o1, o2, o3⟩ := hok
    have hb := W.tin n o1
    simp only [Dl.d, tD]
    walk_at "dl"
    rw [show decide (Str.ofString "loose" = Str.ofString "new") = false by decide +kernel]
    walk_at "dl"
    rw [show decide (Str.ofString "loose" = Str.ofString "hold") = false by decide +kernel]
    walk_at "dl"
    refine needOf (methOf (x := .non) (hrep_hall R) rfl) ?_
    walk_at "dl"
    refine dgetOf hth rfl (thD_get hb.1 hb.2) ?_
    walk_at "dl"
    have T0 : HTr CT CH en H s S H (s.unheld n) S := HTr.ghost R rfl rfl
    cases ht with
    | loose h => exact ⟨H, s.unheld n, .th n, s', rfl, T0.rep, W.unheld n, hb, h, fun H' S' T1 => same (T0.trans T1) (hmy nofun)⟩
  | part d =>
    cases d with
    | put n k v =>
      obtain ⟨o1, o2, o3, o4⟩ := hok
      have hb := W.tin n o1
      simp only [Dl.d, Dp.d, tD]
      walk_at "dl"
      rw [show decide (Str.ofString "put" = Str.ofString "new") = false by decide +kernel]
      walk_at "dl"
      rw [show decide (Str.ofString "put" = Str.ofString "hold") = false by decide +kernel]
      walk_at "dl"
      rw [show decide (Str.ofString "put" = Str.ofString "loose") = false by decide +kernel]
      walk_at "dl"
      refine needOf (methOf (x := .non) (hrep_hall R) rfl) ?_
      walk_at "dl"
      refine dgetOf hth rfl (thD_get hb.1 hb.2) ?_
      walk_at "dl"
      refine ⟨H, s.many, th, v, rfl, hth, o3, ?_⟩
      walk_at "dl"
      cases ht with
      | part h =>
        cases h with
        | put h => exact ⟨H, s, n, dK k, k, v, s', rfl, R, W, hb.1, hb.2, keyD_dK k, o2, o3, o4, h, fun H' S' T1 => same T1 (hmy nofun)⟩
    | take n k =>
      obtain ⟨o1, o2⟩ := hok
      have hb := W.tin n o1
      simp only [Dl.d, Dp.d, tD]
      walk_at "dl"
      rw [show decide (Str.ofString "take" = Str.ofString "new") = false by decide +kernel]
      walk_at "dl"
      rw [show decide (Str.ofString "take" = Str.ofString "hold") = false by decide +kernel]
      walk_at "dl"
      rw [show decide (Str.ofString "take" = Str.ofString "loose") = false by decide +kernel]
      walk_at "dl"
      rw [show decide (Str.ofString "take" = Str.ofString "put") = false by decide +kernel]
      walk_at "dl"
      refine needOf (methOf (x := .non) (hrep_hall R) rfl) ?_
      walk_at "dl"
      refine dgetOf hth rfl (thD_get hb.1 hb.2) ?_
      walk_at "dl"
      cases ht with
      | part h =>
        cases h with
        | take h1 h2 => exact ⟨H, s, n, dK k, k, _, s', rfl, R, W, hb.1, hb.2, keyD_dK k, h1, h2, fun H' S' T1 => same T1 (hmy nofun)⟩
        | none h1 => rw [h1] at o2; cases o2
    | make n k => exact hok.elim
end
end K

set_option Elab.async false
set_option linter.all false
set_option maxRecDepth 100000
namespace K
open PySem L2 Evl EX DL HM
/-- the hall and the law's own beside one another -/
structure Lw (CT CH : Addr) (k : Nat) (H : HA) (M : ML → Addr) (x : Mx) (s : Hs) (th w : Addr) (S : Sto) : Prop where
  h : HRep CT CH .non H s S
  m : MRep M x s S
  ap : Apart H.a (hC CT CH .non H s) M (mC M x s)
  W : Wf s
  G : Good s
  row : s.row = none
  mo : ∀ n, s.mine.count n ≤ s.outer.count n
  kk : ∀ n, ∀ kv ∈ s.parts n, kv.1 ∈ K6
  hth : S th = some (.dct (thD H s.many))
  wl : Well S w
  ht : ∀ l, hC CT CH .non H s l ≠ none → th ≠ H.a l
  hw : ∀ l, hC CT CH .non H s l ≠ none → w ≠ H.a l
  mt : ∀ l, mC M x s l ≠ none → th ≠ M l
  mw : ∀ l, mC M x s l ≠ none → w ≠ M l
  lo : s.outer.length ≤ k
  lm : s.mine.length ≤ k
  ln : s.many ≤ k
theorem keys_len {l : List (Key × Vl)} (h1 : (l.map (·.1)).Nodup) (h2 : ∀ kv ∈ l, kv.1 ∈ K6) : l.length ≤ 6 := by
  have key : ∀ (ks : List Key) (l : List Key), l.Nodup → (∀ k ∈ l, k ∈ ks) → l.length ≤ ks.length := by
    intro ks
    induction ks with
    | nil =>
      intro l _ h
      cases l with
      | nil => exact Nat.le_refl _
      | cons a l => exact absurd (h a (List.mem_cons_self ..)) (by simp)
    | cons a ks ih =>
      intro l nd h
      by_cases z : a ∈ l
      · have := ih (l.filter fun k => decide (k ≠ a)) (nd.sublist List.filter_sublist) fun k hk => by
          obtain ⟨h3, h4⟩ := List.mem_filter.mp hk
          exact (List.mem_cons.mp (h k h3)).resolve_left (of_decide_eq_true h4)
        have h5 : ∀ (l : List Key), l.Nodup → a ∈ l → (l.filter fun k => decide (k ≠ a)).length + 1 = l.length := by
          intro l
          induction l with
          | nil => intro _ h; cases h
          | cons b l ih2 =>
            intro nd h
            obtain ⟨n1, n2⟩ := List.nodup_cons.mp nd
            rw [List.filter_cons]
            by_cases y : b = a
            · subst y
              rw [if_neg (by simp)]
              have : (l.filter fun k => decide (k ≠ b)) = l := List.filter_eq_self.mpr fun k hk => by rw [decide_eq_true_iff]; exact fun w => n1 (w ▸ hk)
              rw [this, List.length_cons]
            · rw [if_pos (by simpa using y), List.length_cons, List.length_cons, ih2 n2 ((List.mem_cons.mp h).resolve_left (Ne.symm y))]
        have := h5 l nd z
        rw [List.length_cons]
        omega
      · have := ih l nd fun k hk => (List.mem_cons.mp (h k hk)).resolve_left fun e => z (e ▸ hk)
        rw [List.length_cons]
        omega
  have := key K6 (l.map (·.1)) h1 fun k hk => by obtain ⟨kv, h3, rfl⟩ := List.mem_map.mp hk; exact h2 kv h3
  rw [List.length_map] at this
  exact this
/-- a deed that may be done can be done -/
structure Nx (s s' : Hs) : Prop where
  W : Wf s'
  G : Good s'
  row : s'.row = none
  mo : ∀ n, s'.mine.count n ≤ s'.outer.count n
  kk : ∀ n, ∀ kv ∈ s'.parts n, kv.1 ∈ K6
  lo : s'.outer.length ≤ s.outer.length + 1
  lm : s'.mine.length ≤ s.mine.length + 1
  ln : s'.many ≤ s.many + 1
theorem deed_ex {s : Hs} {d : Dl} (W : Wf s) (G : Good s) (hr : s.row = none) (mo : ∀ n, s.mine.count n ≤ s.outer.count n) (kk : ∀ n, ∀ kv ∈ s.parts n, kv.1 ∈ K6) (hk : ∀ n k v, d = .part (.put n k v) → k ∈ K6) (ok : d.Ok s) : ∃ s', d.R askNo s s' ∧ ((∀ f, d ≠ .new f) → s'.many = s.many) ∧ Nx s s' := by
  cases d with
  | new f => exact ⟨_, .new, fun h => absurd rfl (h f), ⟨W.made ok _ _, G.made W _ _, hr, mo, kk, by exact Nat.le_succ _, Nat.le_succ _, Nat.le_refl _⟩⟩
  | hold n =>
    refine ⟨_, .hold, fun _ => rfl, ⟨W.holdM n, G.holdM (W.tin n ok).2, hr, fun j => ?_, kk, ?_, ?_, Nat.le_succ _⟩⟩
    · show (s.mine ++ [n]).count j ≤ (s.outer ++ [n]).count j
      rw [List.count_append, List.count_append]
      have := mo j
      omega
    · show (s.outer ++ [n]).length ≤ _
      simp
    · show (s.mine ++ [n]).length ≤ _
      simp
  | loose n =>
    obtain ⟨o1, o2, o3⟩ := ok
    have W1 := W.unheld n
    have G1 := G.unheld o3
    obtain ⟨s', h, k, e⟩ := loose_ex W1 G1 hr
    have hmo : ∀ j, s'.mine.count j ≤ s'.outer.count j := fun j => by
      rw [k.mine, k.out j]
      show (s.mine.erase n).count j ≤ (s.outer.erase n).count j
      have := mo j
      by_cases z : j = n
      · subst z; rw [List.count_erase_self, List.count_erase_self]; omega
      · rw [List.count_erase_of_ne z, List.count_erase_of_ne z]; exact this
    refine ⟨s', .loose h, fun _ => k.many, ⟨(Loose.wf askNo_ok h W1).1, Loose.good askNo_good h W1 G1, e, hmo, fun i kv hkv => kk i kv ((k.shr i).mem hkv), ?_, ?_, ?_⟩⟩
    · rw [k.len]; show (s.outer.erase n).length ≤ _; have := List.length_erase_le (a := n) (l := s.outer); omega
    · rw [k.mine]; show (s.mine.erase n).length ≤ _; have := List.length_erase_le (a := n) (l := s.mine); omega
    · rw [k.many]; exact Nat.le_succ _
  | part d =>
    cases d with
    | put n k v =>
      obtain ⟨o1, o2, o3, o4⟩ := ok
      have W1 := W.putP (k := k) (W.tin n o1).2 o3 o2 o4
      have G1 := G.putP W o1 k v
      have ho : (s.putP n k v).outer = s.outer := by unfold Hs.putP; cases v <;> rfl
      have hm : (s.putP n k v).mine = s.mine := by unfold Hs.putP; cases v <;> rfl
      have hy : (s.putP n k v).many = s.many := by unfold Hs.putP; cases v <;> rfl
      have hro : (s.putP n k v).row = none := by unfold Hs.putP; cases v <;> exact hr
      obtain ⟨s', h, k', e⟩ := loose_ex W1 G1 hro
      refine ⟨s', .part (.put h), fun _ => k'.many.trans hy, ⟨(Loose.wf askNo_ok h W1).1, Loose.good askNo_good h W1 G1, e, fun j => by rw [k'.mine, k'.out j, ho, hm]; exact mo j, fun i kv hkv => ?_, by rw [k'.len, ho]; omega, by rw [k'.mine, hm]; omega, by rw [k'.many, hy]; omega⟩⟩
      have h1 : kv ∈ DL.fset s.parts n (gput (s.parts n) k v) i := (k'.shr i).mem hkv
      by_cases z : i = n
      · subst z
        rw [DL.fset_same] at h1
        rcases gput_key h1 with ⟨y, h2, h3⟩ | h2
        · rw [← h3]; exact kk i y h2
        · rw [h2]; exact hk i k v rfl
      · rw [DL.fset_ne z] at h1; exact kk i kv h1
    | take n k =>
      obtain ⟨o1, o2⟩ := ok
      obtain ⟨v, hv⟩ := Option.isSome_iff_exists.mp o2
      have W1 := W.dropP (k := k) (W.tin n o1).2
      have G1 := G.dropP W o1 hv
      obtain ⟨s', h, k', e⟩ := loose_ex W1 G1 hr
      refine ⟨s', .part (.take hv h), fun _ => k'.many, ⟨(Loose.wf askNo_ok h W1).1, Loose.good askNo_good h W1 G1, e, fun j => by rw [k'.mine, k'.out j]; exact mo j, fun i kv hkv => ?_, by rw [k'.len]; exact Nat.le_succ _, by rw [k'.mine]; exact Nat.le_succ _, by rw [k'.many]; exact Nat.le_succ _⟩⟩
      have h1 : kv ∈ DL.fset s.parts n (gdrop (s.parts n) k) i := (k'.shr i).mem hkv
      by_cases z : i = n
      · subst z
        rw [DL.fset_same] at h1
        exact kk i kv (List.mem_filter.mp h1).1
      · rw [DL.fset_ne z] at h1; exact kk i kv h1
    | make n k => exact ok.elim
/-- the things in a deed -/
def dThs : Dl → List Nat
  | .new _ => []
  | .hold n => [n]
  | .loose n => [n]
  | .part (.put n _ (.th j)) => [n, j]
  | .part (.put n _ (.no _)) => [n]
  | .part (.take n _) => [n]
  | .part (.make n _) => [n]
section
variable {P : Program} {w : World} {K : PySem.W.Frag} {mg : Str → Option Value} {base : Heap} {CT CH : Addr}
local macro_rules | `(tactic| walk_at "dl") => `(tactic| try simp only [↓x_neg, ↓x_lcS, ↓x_lockE, ↓x_eqA, ↓x_dictD, ↓x_disp, ↓x_pNil, ↓x_pCons, ↓x_forS, ↓x_diSL, ↓x_diKeys, ↓x_lock, ↓x_dictP, ↓x_fld, ↓x_fldS, ↓x_fldA, ↓x_meth, ↓x_make, ↓x_dget, ↓x_din, ↓x_dget1, ↓x_dget2, ↓x_dpop, ↓x_dput, ↓x_listD, ↓x_sortDI, ↓x_lenD, ↓x_isiC, x_icS, x_icI, x_icB, x_icN, x_ioS, x_ioI, x_ioB, x_ioN, ↓x_gSub, ↓x_sortDL, ↓x_eqO, ↓x_ninA, x_catN, x_isBB, x_isBN, x_isBI, x_isBS, x_isBR, ↓x_seq, ↓x_nx, ↓x_pass, ↓x_brk, ↓x_cnt, ↓x_drop, ↓x_ret, ↓x_retN, ↓x_ifS, ↓x_set, ↓x_asg, ↓x_gN, ↓x_gT, ↓x_gsC, ↓x_gsN, ↓x_var, x_rdv, ↓x_c, ↓x_op, ↓x_test, x_tst, ↓x_and, ↓x_or, ↓x_not, ↓x_andV, ↓x_orV, ↓x_notV, x_tstV, ↓x_ifE, x_true, x_false, ↓x_nil, ↓x_cons, ↓x_tup, ↓x_lst, ↓x_new, ↓x_newD, ↓x_call, ↓x_cb, x_oI, x_oIc, x_oS, x_addS, x_isN, x_notN, x_eqI, x_eqS, x_eqIS, x_eqSI, x_eqNS, x_neI, x_neS, x_neB, x_eqB, x_few, x_need, ↓x_ix, x_lenS, x_ixL0, x_ixT0, x_ixT1, x_ixT2, x_ixT3, x_ixT4, x_lenL, x_lenT, x_lenC, x_listL, x_listT, x_tupL, x_tupT, x_strI, x_strS, x_int1, x_intB, x_I1, x_I2, x_cat, x_catT, ↓x_split, ↓x_for, ↓x_cut, ↓x_lc, ↓x_whl, ↓x_diL, ↓x_diT, ↓x_diS, x_itL, x_itC, x_itT, x_itS, ↓x_diR1, ↓x_diR2, ↓x_diE, x_enmL, x_enmC, ↓x_gcN, ↓x_gcT, ↓x_yes, ↓x_ml, ↓x_ms, x_strq, x_ss, x_ssc, x_ssi, ↓x_join, ↓x_aug, x_st2I, ↓x_sl, ↓x_noP, ↓x_part, x_intq, x_slL, x_slC, x_slS, ↓x_in, x_inT, x_inL, x_ninT, x_ninL, x_inN, x_inSS, x_inSI, x_inIS, x_inII, ↓x_sg, x_sgS, x_nsgS, ↓x_eqD, ↓x_inDD, x_mulS, ↓x_isi, x_isiS, x_isiI, x_isiB, x_isiN, x_isiL, x_isiT, ↓x_isTT, x_itI, x_itStr, x_itN, x_itB, x_itLst, x_itTup, ↓x_any, ↓x_all, ↓x_sum, ↓x_srtI, ↓x_srtS, ↓x_intS, ↓x_lenRf, ↓x_tupRf, ↓x_frz', x_flS, x_flI, x_flN, x_flB, x_cs_bool, x_isB_NoneType_bool, x_isB_bool_bool, x_isB_int_bool, x_isB_str_bool, x_isB_list_bool, x_isB_tuple_bool, x_isB_dict_bool, x_cs_int, x_isB_NoneType_int, x_isB_bool_int, x_isB_int_int, x_isB_str_int, x_isB_list_int, x_isB_tuple_int, x_isB_dict_int, x_cs_str, x_isB_NoneType_str, x_isB_bool_str, x_isB_int_str, x_isB_str_str, x_isB_list_str, x_isB_tuple_str, x_isB_dict_str, x_cs_list, x_isB_NoneType_list, x_isB_bool_list, x_isB_int_list, x_isB_str_list, x_isB_list_list, x_isB_tuple_list, x_isB_dict_list, x_cs_tuple, x_isB_NoneType_tuple, x_isB_bool_tuple, x_isB_int_tuple, x_isB_str_tuple, x_isB_list_tuple, x_isB_tuple_tuple, x_isB_dict_tuple, x_cs_dict, x_isB_NoneType_dict, x_isB_bool_dict, x_isB_int_dict, x_isB_str_dict, x_isB_list_dict, x_isB_tuple_dict, x_isB_dict_dict, List.all_cons, List.all_nil, Bool.and_self, Bool.or_false, Bool.or_true, Bool.false_or, Bool.true_or, wipeD, setD, DL.isNon, List.set_cons_zero, List.set_cons_succ, List.getElem?_cons_zero, List.getElem?_cons_succ, List.length_cons, List.length_nil, Nat.zero_add, List.cons_append, List.nil_append, decide_true, decide_false, Bool.not_true, Bool.not_false, true_and, and_true, startD, List.map_cons, List.map_nil, Nat.reduceSub, Nat.reduceLeDiff, Nat.zero_le, Int.reduceLT, Int.reduceLE, and_self, Nat.reduceAdd, List.replicate])
theorem isi_key {S : Sto} {k : DK} (a : Key) (q : k (.bl false) S) : stC oIsi [dK a, .ty "tuple"] S k ⟨⟩ := by
  cases a with
  | inl i => show stC oIsi [.int i, .ty "tuple"] S k ⟨⟩; rw [x_isiI (by decide), x_isB_int_tuple]; exact q
  | inr s => show stC oIsi [.str s, .ty "tuple"] S k ⟨⟩; rw [x_isiS (by decide), x_isB_str_tuple]; exact q
/-- what stands in a deed: a thing, or what is no tuple -/
def El (d : Dl) (e : D) : Prop := (∃ j ∈ dThs d, e = .tup [.str (Str.ofString "t"), .int (j : Int)]) ∨ ∀ (S : Sto) (k : DK), k (.bl false) S → stC oIsi [e, .ty "tuple"] S k ⟨⟩
theorem el_str (d : Dl) (s : Str) : El d (.str s) := .inr fun S k q => by rw [x_isiS (by decide), x_isB_str_tuple]; exact q
theorem el_ok (d : Dl) (h : ∀ n k v, d = .part (.put n k v) → ∀ x, v = .no x → NoTh x) : ∃ ds, d.d = .tup ds ∧ ds.length ≤ 4 ∧ (∀ e ∈ ds, El d e) ∧ ∀ j ∈ dThs d, D.tup [.str (Str.ofString "t"), .int (j : Int)] ∈ ds := by
  cases d with
  | new f => exact ⟨_, rfl, Nat.le_of_ble_eq_true rfl, fun e he => by simp at he; rcases he with rfl | rfl <;> exact el_str _ _, fun j hj => by cases hj⟩
  | hold n => exact ⟨_, rfl, Nat.le_of_ble_eq_true rfl, fun e he => by
      simp at he
      rcases he with rfl | rfl
      · exact el_str _ _
      · exact .inl ⟨n, by simp [dThs], rfl⟩, fun j hj => by simp [dThs] at hj; subst hj; simp [tD]⟩
  | loose n => exact ⟨_, rfl, Nat.le_of_ble_eq_true rfl, fun e he => by
      simp at he
      rcases he with rfl | rfl
      · exact el_str _ _
      · exact .inl ⟨n, by simp [dThs], rfl⟩, fun j hj => by simp [dThs] at hj; subst hj; simp [tD]⟩
  | part d =>
    cases d with
    | take n k => exact ⟨_, rfl, Nat.le_of_ble_eq_true rfl, fun e he => by
        simp at he
        rcases he with rfl | rfl | rfl
        · exact el_str _ _
        · exact .inl ⟨n, by simp [dThs], rfl⟩
        · exact .inr fun S k' q => isi_key k q, fun j hj => by simp [dThs] at hj; subst hj; simp [tD]⟩
    | make n k => exact ⟨_, rfl, Nat.le_of_ble_eq_true rfl, fun e he => by
        simp at he
        rcases he with rfl | rfl | rfl
        · exact el_str _ _
        · exact .inl ⟨n, by simp [dThs], rfl⟩
        · exact .inr fun S k' q => isi_key k q, fun j hj => by simp [dThs] at hj; subst hj; simp [tD]⟩
    | put n k v =>
      refine ⟨_, rfl, Nat.le_of_ble_eq_true rfl, fun e he => ?_, fun j hj => ?_⟩
      · simp at he
        rcases he with rfl | rfl | rfl | rfl
        · exact el_str _ _
        · exact .inl ⟨n, by cases v <;> simp [dThs], rfl⟩
        · exact .inr fun S k' q => isi_key k q
        · cases v with
          | th j => exact .inl ⟨j, by simp [dThs], rfl⟩
          | no x => exact .inr fun S k' q => isi_no (h n k _ rfl x rfl) q
      · cases v with
        | th i => simp [dThs] at hj; rcases hj with rfl | rfl <;> simp [tD, vM]
        | no x => simp [dThs] at hj; subst hj; simp [tD]
/-- what stands beside hall and law is kept, and stays beside them -/
def Bes (CT CH : Addr) (x : Mx) (H : HA) (M : ML → Addr) (s : Hs) (th : Addr) (b : Addr) : Prop := (∀ l, hC CT CH .non H s l ≠ none → b ≠ H.a l) ∧ (∀ l, mC M x s l ≠ none → b ≠ M l) ∧ b ≠ th
def dDo (CT CH : Addr) (x : Mx) : SpD := fun ds S q _ => ∃ (k : Nat) (H : HA) (M : ML → Addr) (s : Hs) (th w : Addr) (d : Dl), ds = [.ref (H.a .hall), .ref th, .ref (M .m), d.d] ∧ Lw CT CH k H M x s th w S ∧ k < 4000 ∧
  (∀ n k v, d = .part (.put n k v) → k ∈ K6 ∧ ∀ y, v = .no y → NoTh y) ∧ (∀ n, d = .loose n → n ∈ s.mine) ∧ (∀ n k, d = .part (.take n k) → n ∈ s.there → (gval (s.parts n) k).isSome = true) ∧ (∀ n k, d ≠ .part (.make n k)) ∧
  ∀ H' M' s' S', H'.a .hall = H.a .hall → M' .m = M .m → (s' = s ∨ (d.Ok s ∧ (∀ j ∈ dThs d, j ∈ s.there) ∧ d.R askNo s s')) → (∀ b, S b ≠ none → Bes CT CH x H M s th b → S' b = S b ∧ Bes CT CH x H' M' s' th b) → Lw CT CH (k + 1) H' M' x s' th w S' → q .non S'
theorem ok_do {L : Nat} {x : Mx} (hL : 1 ≤ L) {fa : Addr} {fd : FuncData} (F : Fun K "_law_do" "_law_do" s__law_do fa fd) (T : Txt K mg CT CH) (G__law_done : DefD P w K mg base L "_law_done" ["_law_hall", "_law_things", "_law_deed"] (dDone CT CH .non askNo)) (G__law_modelled : DefD P w K mg base L "_law_modelled" ["_law_m", "_law_deed"] (dModelled askNo (fun _ => 0) x)) :
    FnOk P w K mg base CX0 (L + 1) fa fd ["_law_hall", "_law_things", "_law_m", "_law_deed"] (lSp K (dDo CT CH x)) := by
  refine dok F sc__law_do (fun ds S q qx ⟨k, H, M, s, th, w, d, e, _⟩ => by rw [e]; rfl) ⟨_, fun cdv A outer s H E hr => dss_one (ds_if (dt_val (de_callB (crAll (K := K)) si_all (by rfl) T.all (by decide +kernel) (da_cons (de_lc (own := [("_law_one", 4)]) (gc_name (j := 4) (by decide)) rfl sc__law_do.nd (di_tup (K := K) (de_var 3)) (blkOk_by (N := N__law_do) (sc := defScope s__law_do) (by decide +kernel)) (fun _ _ _ _ _ => pg_name (i := 4) sc__law_do.nd rfl (Or.inl rfl)) (fun _ _ _ _ _ => dts_one (dt_val (de_callB (clIsi' (K := K)) si_isi (by rfl) T.isinstance (by decide +kernel) (da_cons (de_var 4) (da_cons (de_blt (n := "tuple") (by rfl) T.tuple (by decide +kernel)) da_nil))))) (fun _ _ _ _ _ => de_and (de_din (hu_of hr) (de_ix ix_seq (si_ix rfl) (de_var 4) (de_int) (fun _ _ => rfl)) (de_var 1)) (de_one (de_din (hu_of hr) (de_ix ix_seq (si_ix rfl) (de_var 4) (de_int) (fun _ _ => rfl)) (de_dget (hu_of hr) (de_var 2) (de_str) (fun _ _ => rfl)))))) da_nil)))
        (dss_cons (ds_expr (de_call G__law_done (hr.mono (by omega)) (by rfl) (da_cons (de_var 0) (da_cons (de_var 1) (da_cons (de_var 3) da_nil)))))
        (dss_one (ds_expr (de_call G__law_modelled (hr.mono (by omega)) (by rfl) (da_cons (de_var 2) (da_cons (de_var 3) da_nil))))))
        (dss_nil)), fun ds S q qx ⟨k, H, M, s, th, w, d, hd, lw, hk, hp, hlo, hta, hmk, hq⟩ => ?_⟩
  subst hd
  obtain ⟨es, ed, el1, el2, el3⟩ := el_ok d fun n k v e => (hp n k v e).2
  walk_at "dl"
  rw [ed]
  walk_at "dl"
  refine lcOf (fun i acc => ∃ bs : List Bool, acc = bs.map D.bl ∧ bs.length ≤ i ∧ (bs.all id = true → ∀ j, D.tup [.str (Str.ofString "t"), .int ((j : Nat) : Int)] ∈ es.take i → j ∈ s.there)) (by omega) ⟨[], rfl, by simp, fun _ j hj => by simp at hj⟩ ?_ ?_
  · rintro p hp i e acc hi ⟨bs, rfl, hbl, hbs⟩
    have hthp : put S p (.lst (bs.map D.bl)) th = some (.dct (thD H s.many)) := by rw [put_ne (sto_ne lw.hth hp)]; exact lw.hth
    have hmp : put S p (.lst (bs.map D.bl)) (M .m) = some (.dct (mKvs M x s.many (rowM M s.row) s.lasts)) := by rw [put_ne (sto_ne (m_m lw.m) hp)]; exact m_m lw.m
    have hpp : put S p (.lst (bs.map D.bl)) (M .parts) = some (.dct (plD M s.there)) := by rw [put_ne (sto_ne (m_parts lw.m) hp)]; exact m_parts lw.m
    have etk : es.take (i + 1) = es.take i ++ [e] := by rw [List.take_add_one, hi]; rfl
    walk_at "dl"
    rcases el2 e (List.mem_of_getElem? hi) with ⟨j, hj, rfl⟩ | hno
    · walk_at "dl"
      refine dinOf hthp rfl ?_
      have e1 : (gval (thD H s.many) (.inl (j : Int))).isSome = decide (1 ≤ j ∧ j ≤ s.many) := by
        by_cases z : 1 ≤ j ∧ j ≤ s.many
        · rw [thD_get z.1 z.2, decide_eq_true z]; rfl
        · rw [thD_none z, decide_eq_false z]; rfl
      rw [e1]
      by_cases z : 1 ≤ j ∧ j ≤ s.many
      · rw [decide_eq_true z]
        walk_at "dl"
        refine dgetOf hmp rfl mg_parts ?_
        walk_at "dl"
        refine dinOf hpp rfl ?_
        rw [plD_isSome]
        refine LcO.of hp ⟨bs ++ [decide (j ∈ s.there)], by rw [List.map_append]; rfl, by simp; omega, fun h i' hi' => ?_⟩
        rw [List.all_append, Bool.and_eq_true] at h
        rw [etk] at hi'
        rcases List.mem_append.mp hi' with h1 | h1
        · exact hbs h.1 i' h1
        · have h2 := List.mem_singleton.mp h1
          have h3 : i' = j := by
            injection h2 with h2
            injection h2 with _ h2
            injection h2 with h2
            injection h2 with h2
            omega
          rw [h3]
          have h4 := h.2
          simp at h4
          exact h4
      · rw [decide_eq_false z]
        walk_at "dl"
        refine LcO.of hp ⟨bs ++ [false], by rw [List.map_append]; rfl, by simp; omega, fun h => ?_⟩
        rw [List.all_append, Bool.and_eq_true] at h
        cases h.2
    · refine hno _ _ ?_
      walk_at "dl"
      refine LcO.of hp ⟨bs, rfl, by omega, fun h i' hi' => ?_⟩
      rw [etk] at hi'
      rcases List.mem_append.mp hi' with h1 | h1
      · exact hbs h i' h1
      · rw [← List.mem_singleton.mp h1] at hno
        have := hno S (fun x _ => x = .bl false) rfl
        rw [x_isiT (by decide), x_isB_tuple_tuple] at this
        cases this
  · rintro acc ⟨bs, rfl, hbl, hbs⟩
    rw [List.take_length] at hbs
    walk_at "dl"
    refine ⟨bs, rfl, ?_⟩
    walk_at "dl"
    cases hall : bs.all id with
    | false =>
      walk_at "dl"
      exact hq H M s S rfl rfl (.inl rfl) (fun b _ h => ⟨rfl, h⟩) ⟨lw.h, lw.m, lw.ap, lw.W, lw.G, lw.row, lw.mo, lw.kk, lw.hth, lw.wl, lw.ht, lw.hw, lw.mt, lw.mw, by have := lw.lo; omega, by have := lw.lm; omega, by have := lw.ln; omega⟩
    | true =>
      have hthere : ∀ j ∈ dThs d, j ∈ s.there := fun j hj => hbs hall j (el3 j hj)
      have ok : d.Ok s := by
        cases d with
        | new f => show s.many < 5000; have := lw.ln; omega
        | hold n => exact hthere n (by simp [dThs])
        | loose n =>
          have h1 := hlo n rfl
          refine ⟨hthere n (by simp [dThs]), h1, ?_⟩
          have := lw.mo n
          have := List.count_pos_iff.mpr h1
          exact List.count_pos_iff.mp (by omega)
        | part d =>
          cases d with
          | take n k => exact ⟨hthere n (by simp [dThs]), hta n k rfl (hthere n (by simp [dThs]))⟩
          | make n k => exact hmk n k rfl
          | put n k v =>
            obtain ⟨p1, p2⟩ := hp n k v rfl
            have hn : n ∈ s.there := hthere n (by cases v <;> simp [dThs])
            refine ⟨hn, k6_any p1, ?_, by have := keys_len (lw.W.key n) (lw.kk n); omega⟩
            cases v with
            | no y => exact p2 y rfl
            | th j => exact lw.W.tin j (hthere j (by simp [dThs]))
      obtain ⟨s', hR, hmy, nx⟩ := deed_ex lw.W lw.G lw.row lw.mo lw.kk (fun n k v e => (hp n k v e).1) ok
      walk_at "dl"
      refine ⟨H, s, th, d, s', by rw [ed], lw.h, lw.W, ok, lw.hth, lw.ht, hR, hmy, fun H' S1 T1 => ?_⟩
      obtain ⟨R1, ap1⟩ := T1.tr.keepR lw.m lw.ap
      have hwl1 : Well S1 w := by
        obtain ⟨a, b, c, dd, cs, g, r⟩ := lw.wl
        exact ⟨a, b, c, dd, cs, T1.tr.other g lw.hw, r⟩
      have nwt : w ≠ th := fun z => by obtain ⟨_, _, _, _, _, g, _⟩ := lw.wl; rw [z, lw.hth] at g; cases g
      have ne1 : ∀ l, hC CT CH .non H' s' l ≠ none → th ≠ H'.a l := fun l hl z => by
        rcases T1.tr.ext l hl with ⟨h1, h2⟩ | h1
        · exact lw.ht l h1 (z.trans h2)
        · rw [← z, lw.hth] at h1; cases h1
      have ne2 : ∀ l, hC CT CH .non H' s' l ≠ none → w ≠ H'.a l := fun l hl z => by
        rcases T1.tr.ext l hl with ⟨h1, h2⟩ | h1
        · exact lw.hw l h1 (z.trans h2)
        · obtain ⟨_, _, _, _, _, g, _⟩ := lw.wl
          rw [← z, g] at h1; cases h1
      have hR2 : HRep CT CH .non H' s' (put S1 th (.dct (thD H' s'.many))) := ⟨fun {l o} h => by rw [put_ne (Ne.symm (ne1 l (nn h)))]; exact T1.rep.at_ h, T1.rep.inj⟩
      have mR2 : MRep M x s (put S1 th (.dct (thD H' s'.many))) := ⟨fun {l o} h => by rw [put_ne (Ne.symm (lw.mt l (nn h)))]; exact R1.at_ h, R1.inj⟩
      have wR2 : Well (put S1 th (.dct (thD H' s'.many))) w := by
        obtain ⟨a, b, c, dd, cs, g, r⟩ := hwl1
        exact ⟨a, b, c, dd, cs, by rw [put_ne nwt]; exact g, r⟩
      walk_at "dl"
      refine ⟨M, s, d, s', by rw [ed], mR2, lw.W, lw.G, ok, by have := lw.lo; dsimp only; omega, by have := lw.lm; omega, hR, fun M' S2 T2 => ?_⟩
      obtain ⟨R3, ap3⟩ := T2.keepR hR2 ap1.symm
      have bes : ∀ b, S b ≠ none → Bes CT CH x H M s th b → S2 b = S b ∧ Bes CT CH x H' M' s' th b := fun b hb ⟨b1, b2, b3⟩ => by
        have e1 : S1 b = S b := T1.tr.fr b hb b1
        have e2 : put S1 th (.dct (thD H' s'.many)) b = S b := by rw [put_ne b3]; exact e1
        refine ⟨(T2.fr b (by rw [e2]; exact hb) b2).trans e2, fun l hl z => ?_, fun l hl z => ?_, b3⟩
        · rcases T1.tr.ext l hl with ⟨h1, h2⟩ | h1
          · exact b1 l h1 (z.trans h2)
          · rw [← z] at h1; exact hb h1
        · rcases T2.ext l hl with ⟨h1, h2⟩ | h1
          · exact b2 l h1 (z.trans h2)
          · rw [← z, e2] at h1; exact hb h1
      refine hq H' M' s' S2 T1.hall (MTr.m T2) (.inr ⟨ok, hthere, hR⟩) bes ⟨R3, T2.rep, ap3.symm, nx.W, nx.G, nx.row, nx.mo, nx.kk, T2.other put_same lw.mt, ?_, ne1, ne2, fun l hl z => ?_, fun l hl z => ?_, by have := nx.lo; have := lw.lo; omega, by have := nx.lm; have := lw.lm; omega, by have := nx.ln; have := lw.ln; omega⟩
      · obtain ⟨a, b, c, dd, cs, g, r⟩ := wR2
        exact ⟨a, b, c, dd, cs, T2.other g lw.mw, r⟩
      · rcases T2.ext l hl with ⟨h1, h2⟩ | h1
        · exact lw.mt l h1 (z.trans h2)
        · rw [← z, put_same] at h1; cases h1
      · rcases T2.ext l hl with ⟨h1, h2⟩ | h1
        · exact lw.mw l h1 (z.trans h2)
        · obtain ⟨_, _, _, _, _, g, _⟩ := wR2
          rw [← z, g] at h1; cases h1
end
end K

set_option Elab.async false
set_option linter.all false
set_option maxRecDepth 100000
namespace K
open PySem L2 Evl EX DL HM
abbrev s__law_begun : Stmt := top 35
abbrev N__law_begun : List Str := ["_law_well_here", "_law_m", "_law_many", "_law_deeds", "_law_k", "_law_j", "_law_value_here"]
theorem sc__law_begun : FnScope N__law_begun ["_law_well_here", "_law_m", "_law_many"] (defScope s__law_begun) := ⟨rfl, rfl, rfl, by decide +kernel, rfl, by decide +kernel, by decide +kernel⟩
/-- known things, by their numbers -/
def thL (H : HA) (ks : List Nat) : List (Key × D) := ks.map fun n : Nat => ((.inl (n : Int), .ref (H.a (.t n))) : Key × D)
theorem thD_thL (H : HA) (m : Nat) : thD H m = thL H ((List.range m).map (· + 1)) := by
  unfold thD thL
  rw [List.map_map]
  rfl
structure Kn (m : Nat) (ks : List Nat) : Prop where
  nd : ks.Nodup
  rg : ∀ n ∈ ks, 1 ≤ n ∧ n ≤ m
theorem kn_all (m : Nat) : Kn m ((List.range m).map (· + 1)) := ⟨by
  rw [List.nodup_iff_pairwise_ne, List.pairwise_map]
  exact List.Pairwise.imp (fun h => by omega) (List.nodup_iff_pairwise_ne.mp List.nodup_range), fun n hn => by
  obtain ⟨i, hi, rfl⟩ := List.mem_map.mp hn
  have := List.mem_range.mp hi
  omega⟩
theorem nodup_le {m : Nat} : ∀ (ks : List Nat), ks.Nodup → (∀ n ∈ ks, 1 ≤ n ∧ n ≤ m) → ks.length ≤ m := by
  induction m with
  | zero =>
    intro ks _ h
    cases ks with
    | nil => exact Nat.le_refl _
    | cons a l => have := h a (List.mem_cons_self ..); omega
  | succ m ih =>
    intro ks nd h
    have h1 := ih (ks.erase (m + 1)) (nd.erase _) fun n hn => by
      obtain ⟨h2, h3⟩ := (nd.mem_erase_iff).mp hn
      have := h n h3
      omega
    have := List.length_erase (a := m + 1) (l := ks)
    rw [this] at h1
    split at h1 <;> omega
theorem Kn.le {m : Nat} {ks : List Nat} (k : Kn m ks) : ks.length ≤ m := nodup_le ks k.nd k.rg
theorem thL_get {H : HA} {ks : List Nat} {n : Nat} (h : n ∈ ks) : gval (thL H ks) (.inl (n : Int)) = some (.ref (H.a (.t n))) := by
  induction ks with
  | nil => cases h
  | cons k l ih =>
    unfold thL gval at ih ⊢
    rw [List.map_cons, List.find?_cons]
    by_cases z : k = n
    · subst z
      simp
    · have : ¬ ((Sum.inl (k : Int) : Key) = Sum.inl (n : Int)) := fun y => z (by have := Sum.inl.inj y; omega)
      simp only [this, decide_false]
      exact ih ((List.mem_cons.mp h).resolve_left (Ne.symm z))
theorem thL_none {H : HA} {ks : List Nat} {n : Nat} (h : n ∉ ks) : gval (thL H ks) (.inl (n : Int)) = none := by
  unfold gval
  rw [Option.map_eq_none_iff, List.find?_eq_none]
  intro kv hk
  obtain ⟨i, hi, rfl⟩ := List.mem_map.mp hk
  rw [decide_eq_true_iff]
  intro y
  have := Sum.inl.inj y
  exact h (by rw [show n = i by omega]; exact hi)
theorem thL_some {H : HA} {ks : List Nat} {n : Nat} : (gval (thL H ks) (.inl (n : Int))).isSome = decide (n ∈ ks) := by
  by_cases h : n ∈ ks
  · rw [thL_get h, decide_eq_true h]; rfl
  · rw [thL_none h, decide_eq_false h]; rfl
theorem thL_put {H : HA} {m n : Nat} {ks : List Nat} (k : Kn m ks) (h : 1 ≤ n ∧ n ≤ m) : ∃ ks', Kn m ks' ∧ (∀ i ∈ ks, i ∈ ks') ∧ gput (thL H ks) (.inl (n : Int)) (.ref (H.a (.t n))) = thL H ks' := by
  by_cases z : n ∈ ks
  · refine ⟨ks, k, fun _ h => h, ?_⟩
    unfold gput
    have e1 : ((thL H ks).any fun kv => decide (kv.1 = Sum.inl (n : Int))) = true := List.any_eq_true.mpr ⟨((Sum.inl (n : Int) : Key), D.ref (H.a (.t n))), List.mem_map.mpr ⟨n, z, rfl⟩, by simp⟩
    rw [if_pos e1]
    unfold thL
    rw [List.map_map]
    refine List.map_congr_left fun i hi => ?_
    show (if (Sum.inl (i : Int) : Key) = Sum.inl (n : Int) then ((Sum.inl (i : Int), D.ref (H.a (.t n))) : Key × D) else (Sum.inl (i : Int), D.ref (H.a (.t i)))) = _
    split
    · rename_i e
      have := Sum.inl.inj e
      rw [show i = n by omega]
    · rfl
  · refine ⟨ks ++ [n], ⟨List.nodup_append.mpr ⟨k.nd, by simp, fun a ha b hb e => z (by rw [← List.mem_singleton.mp hb, ← e]; exact ha)⟩, fun i hi => ?_⟩, fun i hi => List.mem_append_left _ hi, ?_⟩
    · rcases List.mem_append.mp hi with h1 | h1
      · exact k.rg i h1
      · rw [List.mem_singleton.mp h1]; exact h
    · rw [gput_new (thL_none z)]
      unfold thL
      rw [List.map_append]
      rfl
theorem gval_mem {β : Type} {l : List (Key × β)} (h : (l.map (·.1)).Nodup) {i : Nat} {kv : Key × β} (hi : l[i]? = some kv) : gval l kv.1 = some kv.2 := by
  rcases key_at kv.2 kv.1 h with ⟨j, kv', h1, h2, h3, _, _, h4⟩ | ⟨_, h2⟩
  · have := h4 i kv hi rfl
    rw [this, h1] at hi
    cases hi
    exact h3
  · exact absurd rfl (h2 kv (List.mem_of_getElem? hi))
section
variable {P : Program} {w : World} {K : PySem.W.Frag} {mg : Str → Option Value} {base : Heap} {CT CH : Addr}
local macro_rules | `(tactic| walk_at "dl") => `(tactic| try simp only [↓x_neg, ↓x_lcS, ↓x_lockE, ↓x_eqA, ↓x_dictD, ↓x_disp, ↓x_pNil, ↓x_pCons, ↓x_forS, ↓x_diSL, ↓x_diKeys, ↓x_lock, ↓x_dictP, ↓x_fld, ↓x_fldS, ↓x_fldA, ↓x_meth, ↓x_make, ↓x_dget, ↓x_din, ↓x_dget1, ↓x_dget2, ↓x_dpop, ↓x_dput, ↓x_listD, ↓x_sortDI, ↓x_lenD, ↓x_isiC, x_icS, x_icI, x_icB, x_icN, x_ioS, x_ioI, x_ioB, x_ioN, ↓x_gSub, ↓x_sortDL, ↓x_eqO, ↓x_ninA, x_catN, x_isBB, x_isBN, x_isBI, x_isBS, x_isBR, ↓x_seq, ↓x_nx, ↓x_pass, ↓x_brk, ↓x_cnt, ↓x_drop, ↓x_ret, ↓x_retN, ↓x_ifS, ↓x_set, ↓x_asg, ↓x_gN, ↓x_gT, ↓x_gsC, ↓x_gsN, ↓x_var, x_rdv, ↓x_c, ↓x_op, ↓x_test, x_tst, ↓x_and, ↓x_or, ↓x_not, ↓x_andV, ↓x_orV, ↓x_notV, x_tstV, ↓x_ifE, x_true, x_false, ↓x_nil, ↓x_cons, ↓x_tup, ↓x_lst, ↓x_new, ↓x_newD, ↓x_call, ↓x_cb, x_oI, x_oIc, x_oS, x_addS, x_isN, x_notN, x_eqI, x_eqS, x_eqIS, x_eqSI, x_eqNS, x_neI, x_neS, x_neB, x_eqB, x_few, x_need, ↓x_ix, x_lenS, x_ixL0, x_ixT0, x_ixT1, x_ixT2, x_ixT3, x_ixT4, x_lenL, x_lenT, x_lenC, x_listL, x_listT, x_tupL, x_tupT, x_strI, x_strS, x_int1, x_intB, x_I1, x_I2, x_cat, x_catT, ↓x_split, ↓x_for, ↓x_cut, ↓x_lc, ↓x_whl, ↓x_diL, ↓x_diT, ↓x_diS, x_itL, x_itC, x_itT, x_itS, ↓x_diR1, ↓x_diR2, ↓x_diE, x_enmL, x_enmC, ↓x_gcN, ↓x_gcT, ↓x_yes, ↓x_ml, ↓x_ms, x_strq, x_ss, x_ssc, x_ssi, ↓x_join, ↓x_aug, x_st2I, ↓x_sl, ↓x_noP, ↓x_part, x_intq, x_slL, x_slC, x_slS, ↓x_in, x_inT, x_inL, x_ninT, x_ninL, x_inN, x_inSS, x_inSI, x_inIS, x_inII, ↓x_sg, x_sgS, x_nsgS, ↓x_eqD, ↓x_inDD, x_mulS, ↓x_isi, x_isiS, x_isiI, x_isiB, x_isiN, x_isiL, x_isiT, ↓x_isTT, x_itI, x_itStr, x_itN, x_itB, x_itLst, x_itTup, ↓x_any, ↓x_all, ↓x_sum, ↓x_srtI, ↓x_srtS, ↓x_intS, ↓x_lenRf, ↓x_tupRf, ↓x_frz', x_flS, x_flI, x_flN, x_flB, x_cs_bool, x_isB_NoneType_bool, x_isB_bool_bool, x_isB_int_bool, x_isB_str_bool, x_isB_list_bool, x_isB_tuple_bool, x_isB_dict_bool, x_cs_int, x_isB_NoneType_int, x_isB_bool_int, x_isB_int_int, x_isB_str_int, x_isB_list_int, x_isB_tuple_int, x_isB_dict_int, x_cs_str, x_isB_NoneType_str, x_isB_bool_str, x_isB_int_str, x_isB_str_str, x_isB_list_str, x_isB_tuple_str, x_isB_dict_str, x_cs_list, x_isB_NoneType_list, x_isB_bool_list, x_isB_int_list, x_isB_str_list, x_isB_list_list, x_isB_tuple_list, x_isB_dict_list, x_cs_tuple, x_isB_NoneType_tuple, x_isB_bool_tuple, x_isB_int_tuple, x_isB_str_tuple, x_isB_list_tuple, x_isB_tuple_tuple, x_isB_dict_tuple, x_cs_dict, x_isB_NoneType_dict, x_isB_bool_dict, x_isB_int_dict, x_isB_str_dict, x_isB_list_dict, x_isB_tuple_dict, x_isB_dict_dict, List.all_cons, List.all_nil, Bool.and_self, Bool.or_false, Bool.or_true, Bool.false_or, Bool.true_or, wipeD, setD, DL.isNon, List.set_cons_zero, List.set_cons_succ, List.getElem?_cons_zero, List.getElem?_cons_succ, List.length_cons, List.length_nil, Nat.zero_add, List.cons_append, List.nil_append, decide_true, decide_false, Bool.not_true, Bool.not_false, true_and, and_true, startD, List.map_cons, List.map_nil, Nat.reduceSub, Nat.reduceLeDiff, Nat.zero_le, Int.reduceLT, Int.reduceLE, and_self, Nat.reduceAdd, List.replicate])
def dMet (CT CH : Addr) (en : D) : SpD := fun ds S q _ => ∃ (H : HA) (s : Hs) (th : Addr) (ks : List Nat), ds = [.ref th] ∧ HRep CT CH en H s S ∧ Wf s ∧ S th = some (.dct (thL H ks)) ∧ Kn s.many ks ∧ (∀ l, hC CT CH en H s l ≠ none → th ≠ H.a l) ∧
  ∀ p ks', S p = none → Kn s.many ks' → (∀ n ∈ ks, n ∈ ks') → q (.ref p) (put S p (.dct (thL H ks')))
theorem ok_met {en : D} {fa : Addr} {fd : FuncData} (F : Fun K "_law_met_things" "_law_met_things" s__law_met_things fa fd) (T : Txt K mg CT CH) : FnOk P w K mg base CX0 1 fa fd ["_law_things"] (lSp K (dMet CT CH en)) := by
  refine dok F sc__law_met_things (fun ds S q qx ⟨H, s, th, ks, e, _⟩ => by rw [e]; rfl) ⟨_, fun cdv A outer s H E hr => dss_cons (ds_set (i := 1) sc__law_met_things.nd rfl (Or.inl rfl) (de_callTy call_dictD si_dictD (by rfl) T.dict (by decide +kernel) (da_cons (de_var 0) da_nil)))
      (dss_cons (ds_lock (ds_forS PassesOwn.never rfl (di_keys (de_var 0)) (dg_name (i := 2) sc__law_met_things.nd rfl (Or.inl rfl))
        (dss_one (ds_lock (ds_forS PassesOwn.never rfl (di_keys (de_fld T.Thing_ (by decide +kernel) (de_dget (hu_of hr) (de_var 0) (de_var 2) (fun _ _ => rfl)))) (dg_name (i := 3) sc__law_met_things.nd rfl (Or.inl rfl))
          (dss_cons (ds_set (i := 4) sc__law_met_things.nd rfl (Or.inl rfl) (de_dget (hu_of hr) (de_fld T.Thing_ (by decide +kernel) (de_dget (hu_of hr) (de_var 0) (de_var 2) (fun _ _ => rfl))) (de_var 3) (fun _ _ => rfl)))
          (dss_one (ds_if (dt_val (de_callB (clIsi' (K := K)) (si_isiC T.ThingI) (by rfl) T.isinstance (by decide +kernel) (da_cons (de_var 4) (da_cons (de_gl (by rfl) T.Thing) da_nil))))
            (dss_one (ds_dput (hu_of hr) (de_var 1) (de_fld T.Thing_ (by decide +kernel) (de_var 4)) (de_var 4)))
            (dss_nil)))))))))
      (dss_one (ds_ret (de_var 1)))), fun ds S q qx ⟨H, s, th, ks, hd, R, W, hth, kn, hap, hq⟩ => ?_⟩
  subst hd
  walk_at "dl"
  refine dictDOf (.inl hth) fun p hp => ?_
  walk_at "dl"
  have npt : p ≠ th := fun z => by rw [z, hth] at hp; cases hp
  refine lockOf (by rw [put_ne (Ne.symm npt)]; exact hth) fun od xs => ?_
  walk_at "dl"
  refine skOf put_same ?_
  refine forSOf (fun j δ S' => (∃ ks', Kn s.many ks' ∧ (∀ n ∈ ks, n ∈ ks') ∧ S' p = some (.dct (thL H ks'))) ∧ S' th = some (.lck od xs (thL H ks)) ∧ (∀ b, b ≠ p → b ≠ th → S' b = S b) ∧ ∃ z2 z3 z4, δ = [some (.ref th), some (.ref p), z2, z3, z4]) ⟨⟨ks, kn, fun _ h => h, by rw [put_ne npt]; exact put_same⟩, put_same, fun b h1 h2 => by rw [put_ne h2, put_ne h1], _, _, _, rfl⟩ put_same ?_ ?_
  · rintro j d δ S' hj hph ⟨⟨ks1, kn1, sub1, e1⟩, e2, e3, z2, z3, z4, rfl⟩
    unfold thL at hj
    rw [List.map_map, List.getElem?_map] at hj
    obtain ⟨n, hnj, rfl⟩ := Option.map_eq_some_iff.mp hj
    have hn := kn.rg n (List.mem_of_getElem? hnj)
    have hnk := List.mem_of_getElem? hnj
    have rpd := hrep_pd R hn.1 hn.2
    have rt := hrep_t R hn.1 hn.2
    have npd : H.a (.pd n) ≠ p := fun z => by rw [z, hp] at rpd; cases rpd
    have nth : H.a (.pd n) ≠ th := Ne.symm (hap (.pd n) (nn (hC_pd hn.1 hn.2)))
    have npq : H.a (.t n) ≠ p := fun z => by rw [z, hp] at rt; cases rt
    have ntq : H.a (.t n) ≠ th := Ne.symm (hap (.t n) (nn (hC_t hn.1 hn.2)))
    have ntpd : H.a (.t n) ≠ H.a (.pd n) := R.ne (nn (hC_t hn.1 hn.2)) (nn (hC_pd hn.1 hn.2)) nofun
    walk_at "dl"
    refine lockOf (a := H.a (.pd n)) (by rw [e3 _ npd nth]; exact rpd) fun od2 xs2 => ?_
    walk_at "dl"
    refine dgetOfR (.inr ⟨od, xs, by rw [put_ne (Ne.symm nth)]; exact e2⟩) rfl (thL_get hnk) ?_
    walk_at "dl"
    refine fldOf (by rw [put_ne ntpd, e3 _ npq ntq]; exact rt) th_parts ?_
    walk_at "dl"
    refine skOf put_same ?_
    refine forSOf (fun j δ S2 => (∃ ks', Kn s.many ks' ∧ (∀ n ∈ ks, n ∈ ks') ∧ S2 p = some (.dct (thL H ks'))) ∧ S2 th = some (.lck od xs (thL H ks)) ∧ S2 (H.a (.pd n)) = some (.lck od2 xs2 ((s.parts n).map fun kv => ((kv.1, vD H kv.2) : Key × D))) ∧ (∀ b, b ≠ p → b ≠ th → b ≠ H.a (.pd n) → S2 b = S b) ∧ ∃ z3 z4, δ = [some (.ref th), some (.ref p), some (.int (n : Int)), z3, z4]) ⟨⟨ks1, kn1, sub1, by rw [put_ne (Ne.symm npd)]; exact e1⟩, by rw [put_ne (Ne.symm nth)]; exact e2, put_same, fun b h1 h2 h3 => by rw [put_ne h3, e3 b h1 h2], _, _, rfl⟩ put_same ?_ ?_
    · rintro i d δ S2 hi _ ⟨⟨ks2, kn2, sub2, f1⟩, f2, f3, f4, y3, y4, rfl⟩
      rw [List.map_map, List.getElem?_map] at hi
      obtain ⟨kv, hkv, rfl⟩ := Option.map_eq_some_iff.mp hi
      have hvo := W.pv n kv (List.mem_of_getElem? hkv)
      have hgv : gval ((s.parts n).map fun kv => ((kv.1, vD H kv.2) : Key × D)) kv.1 = some (vD H kv.2) := by
        rw [gval_vD, gval_mem (W.key n) hkv]
        rfl
      walk_at "dl"
      refine dgetOfR (.inr ⟨od, xs, f2⟩) rfl (thL_get hnk) ?_
      walk_at "dl"
      refine fldOf (by rw [f4 _ npq ntq ntpd]; exact rt) th_parts ?_
      walk_at "dl"
      refine dgetOfR (.inr ⟨od2, xs2, f3⟩) (keyD_dK kv.1) hgv ?_
      walk_at "dl"
      cases hv : kv.2 with
      | no d =>
        rw [hv] at hvo
        have hn : NoTh d := hvo
        cases hn <;> (simp only [vD]; walk_at "dl"; exact ⟨f3, ⟨ks2, kn2, sub2, f1⟩, f2, f3, f4, _, _, rfl⟩)
      | th j =>
        rw [hv] at hvo
        have rj := hrep_t R hvo.1 hvo.2
        have nj1 : H.a (.t j) ≠ p := fun z => by rw [z, hp] at rj; cases rj
        have nj2 : H.a (.t j) ≠ th := Ne.symm (hap (.t j) (nn (hC_t hvo.1 hvo.2)))
        have nj3 : H.a (.t j) ≠ H.a (.pd n) := R.ne (nn (hC_t hvo.1 hvo.2)) (nn (hC_pd hn.1 hn.2)) nofun
        have ej : S2 (H.a (.t j)) = _ := (f4 _ nj1 nj2 nj3).trans rj
        simp only [vD]
        rw [x_own ej]
        walk_at "dl"
        refine fldOf ej th_number ?_
        walk_at "dl"
        refine dputOf f1 rfl (by unfold thL; rw [List.length_map]; have := kn2.le; have := W.most; omega) ?_
        obtain ⟨ks3, kn3, sub3, e⟩ := thL_put (H := H) kn2 hvo
        rw [e]
        refine ⟨?_, ⟨ks3, kn3, fun i hi => sub3 i (sub2 i hi), put_same⟩, ?_, ?_, fun b h1 h2 h3 => by rw [put_ne h1, f4 b h1 h2 h3], _, _, rfl⟩
        · rw [put_ne npd]; exact f3
        · rw [put_ne (Ne.symm npt)]; exact f2
        · rw [put_ne npd]; exact f3
    · rintro δ S2 _ ⟨⟨ks2, kn2, sub2, f1⟩, f2, f3, f4, y3, y4, rfl⟩
      refine ⟨f3, ⟨?_, ⟨ks2, kn2, sub2, ?_⟩, ?_, fun b h1 h2 => ?_, _, _, _, rfl⟩⟩
      · rw [put_ne (Ne.symm nth)]; exact f2
      · rw [put_ne (Ne.symm npd)]; exact f1
      · rw [put_ne (Ne.symm nth)]; exact f2
      · by_cases h3 : b = H.a (.pd n)
        · rw [h3, put_same, rpd]
        · rw [put_ne h3, f4 b h1 h2 h3]
  · rintro δ S' hph ⟨⟨ks1, kn1, sub1, e1⟩, e2, e3, z2, z3, z4, rfl⟩
    refine ⟨e2, ?_⟩
    walk_at "dl"
    have : put S' th (.dct (thL H ks)) = put S p (.dct (thL H ks1)) := by
      funext b
      by_cases h1 : b = th
      · rw [h1, put_same, put_ne (Ne.symm npt), hth]
      · rw [put_ne h1]
        by_cases h2 : b = p
        · rw [h2, put_same, e1]
        · rw [put_ne h2, e3 b h2 h1]
    rw [this]
    exact hq p ks1 hp kn1 sub1
end
end K

set_option Elab.async false
set_option linter.all false
set_option maxRecDepth 100000
namespace K
open PySem L2 Evl EX DL HM
section
variable {P : Program} {w : World} {K : PySem.W.Frag} {mg : Str → Option Value} {base : Heap} {CT CH : Addr}
local macro_rules | `(tactic| walk_at "dl") => `(tactic| try simp only [↓x_neg, ↓x_lcS, ↓x_lockE, ↓x_eqA, ↓x_dictD, ↓x_disp, ↓x_pNil, ↓x_pCons, ↓x_forS, ↓x_diSL, ↓x_diKeys, ↓x_lock, ↓x_dictP, ↓x_fld, ↓x_fldS, ↓x_fldA, ↓x_meth, ↓x_make, ↓x_dget, ↓x_din, ↓x_dget1, ↓x_dget2, ↓x_dpop, ↓x_dput, ↓x_listD, ↓x_sortDI, ↓x_lenD, ↓x_isiC, x_icS, x_icI, x_icB, x_icN, x_ioS, x_ioI, x_ioB, x_ioN, ↓x_gSub, ↓x_sortDL, ↓x_eqO, ↓x_ninA, x_catN, x_isBB, x_isBN, x_isBI, x_isBS, x_isBR, ↓x_seq, ↓x_nx, ↓x_pass, ↓x_brk, ↓x_cnt, ↓x_drop, ↓x_ret, ↓x_retN, ↓x_ifS, ↓x_set, ↓x_asg, ↓x_gN, ↓x_gT, ↓x_gsC, ↓x_gsN, ↓x_var, x_rdv, ↓x_c, ↓x_op, ↓x_test, x_tst, ↓x_and, ↓x_or, ↓x_not, ↓x_andV, ↓x_orV, ↓x_notV, x_tstV, ↓x_ifE, x_true, x_false, ↓x_nil, ↓x_cons, ↓x_tup, ↓x_lst, ↓x_new, ↓x_newD, ↓x_call, ↓x_cb, x_oI, x_oIc, x_oS, x_addS, x_isN, x_notN, x_eqI, x_eqS, x_eqIS, x_eqSI, x_eqNS, x_neI, x_neS, x_neB, x_eqB, x_few, x_need, ↓x_ix, x_lenS, x_ixL0, x_ixT0, x_ixT1, x_ixT2, x_ixT3, x_ixT4, x_lenL, x_lenT, x_lenC, x_listL, x_listT, x_tupL, x_tupT, x_strI, x_strS, x_int1, x_intB, x_I1, x_I2, x_cat, x_catT, ↓x_split, ↓x_for, ↓x_cut, ↓x_lc, ↓x_whl, ↓x_diL, ↓x_diT, ↓x_diS, x_itL, x_itC, x_itT, x_itS, ↓x_diR1, ↓x_diR2, ↓x_diE, x_enmL, x_enmC, ↓x_gcN, ↓x_gcT, ↓x_yes, ↓x_ml, ↓x_ms, x_strq, x_ss, x_ssc, x_ssi, ↓x_join, ↓x_aug, x_st2I, ↓x_sl, ↓x_noP, ↓x_part, x_intq, x_slL, x_slC, x_slS, ↓x_in, x_inT, x_inL, x_ninT, x_ninL, x_inN, x_inSS, x_inSI, x_inIS, x_inII, ↓x_sg, x_sgS, x_nsgS, ↓x_eqD, ↓x_inDD, x_mulS, ↓x_isi, x_isiS, x_isiI, x_isiB, x_isiN, x_isiL, x_isiT, ↓x_isTT, x_itI, x_itStr, x_itN, x_itB, x_itLst, x_itTup, ↓x_any, ↓x_all, ↓x_sum, ↓x_srtI, ↓x_srtS, ↓x_intS, ↓x_lenRf, ↓x_tupRf, ↓x_frz', x_flS, x_flI, x_flN, x_flB, x_cs_bool, x_isB_NoneType_bool, x_isB_bool_bool, x_isB_int_bool, x_isB_str_bool, x_isB_list_bool, x_isB_tuple_bool, x_isB_dict_bool, x_cs_int, x_isB_NoneType_int, x_isB_bool_int, x_isB_int_int, x_isB_str_int, x_isB_list_int, x_isB_tuple_int, x_isB_dict_int, x_cs_str, x_isB_NoneType_str, x_isB_bool_str, x_isB_int_str, x_isB_str_str, x_isB_list_str, x_isB_tuple_str, x_isB_dict_str, x_cs_list, x_isB_NoneType_list, x_isB_bool_list, x_isB_int_list, x_isB_str_list, x_isB_list_list, x_isB_tuple_list, x_isB_dict_list, x_cs_tuple, x_isB_NoneType_tuple, x_isB_bool_tuple, x_isB_int_tuple, x_isB_str_tuple, x_isB_list_tuple, x_isB_tuple_tuple, x_isB_dict_tuple, x_cs_dict, x_isB_NoneType_dict, x_isB_bool_dict, x_isB_int_dict, x_isB_str_dict, x_isB_list_dict, x_isB_tuple_dict, x_isB_dict_dict, List.all_cons, List.all_nil, Bool.and_self, Bool.or_false, Bool.or_true, Bool.false_or, Bool.true_or, wipeD, setD, DL.isNon, List.set_cons_zero, List.set_cons_succ, List.getElem?_cons_zero, List.getElem?_cons_succ, List.length_cons, List.length_nil, Nat.zero_add, List.cons_append, List.nil_append, decide_true, decide_false, Bool.not_true, Bool.not_false, true_and, and_true, startD, List.map_cons, List.map_nil, Nat.reduceSub, Nat.reduceLeDiff, Nat.zero_le, Int.reduceLT, Int.reduceLE, and_self, Nat.reduceAdd, List.replicate])
theorem sorted_eq : ∀ {a b : List Int}, a.Perm b → a.Pairwise (· ≤ ·) → b.Pairwise (· ≤ ·) → a = b
  | [], b, p, _, _ => (List.Perm.nil_eq p)
  | x :: a, [], p, _, _ => absurd p.length_eq (by simp)
  | x :: a, y :: b, p, h1, h2 => by
    obtain ⟨g1, g2⟩ := List.pairwise_cons.mp h1
    obtain ⟨g3, g4⟩ := List.pairwise_cons.mp h2
    have hx : x ∈ y :: b := p.mem_iff.mp (List.mem_cons_self ..)
    have hy : y ∈ x :: a := p.mem_iff.mpr (List.mem_cons_self ..)
    have e : x = y := by
      rcases List.mem_cons.mp hx with h | h
      · exact h
      · rcases List.mem_cons.mp hy with h' | h'
        · exact h'.symm
        · exact Int.le_antisymm (g1 y h') (g3 x h)
    subst e
    rw [sorted_eq (List.Perm.cons_inv p) g2 g4]
theorem ints_deepL : ∀ (ys : List Int), deepL (ys.map D.int) = 0
  | [] => rfl
  | y :: ys => by rw [List.map_cons, deepL, ints_deepL ys]; rfl
theorem ints_deep (ys : List Int) : (D.list (ys.map D.int)).deep = 1 := by rw [D.deep, ints_deepL]
theorem pairs_deep {s : Hs} (W : Wf s) (n : Nat) : (D.list ((s.parts n).map pM)).deep ≤ 64 := by
  rw [D.deep]
  have : deepL ((s.parts n).map pM) ≤ 2 := (deepL_le _).mpr fun d hd => by
    obtain ⟨kv, hkv, rfl⟩ := List.mem_map.mp hd
    have h1 := vM_deep (W.pv n kv hkv)
    show deepL [dK kv.1, vM kv.2] + 1 ≤ 2
    have h2 : (dK kv.1).deep = 0 := by cases kv.1 <;> rfl
    rw [deepL, deepL, deepL, h2]
    omega
  omega
def dAlike (CT CH : Addr) (en : D) : SpD := fun ds S q _ => ∃ (H : HA) (M : ML → Addr) (x : Mx) (s : Hs) (th : Addr) (ks : List Nat), ds = [.ref (H.a .hall), .ref th, .ref (M .m)] ∧ HRep CT CH en H s S ∧ MRep M x s S ∧ Wf s ∧ Good s ∧ S th = some (.dct (thL H ks)) ∧ Kn s.many ks ∧ (∀ l, hC CT CH en H s l ≠ none → th ≠ H.a l) ∧ (∀ n, ∀ kv ∈ s.parts n, kv.1 ∈ K6) ∧ Apart H.a (hC CT CH en H s) M (mC M x s) ∧
  ∀ p o, S p = none → q (.bl true) (put S p o)
theorem ok_alike {en : D} {fa : Addr} {fd : FuncData} (F : Fun K "_law_alike" "_law_alike" s__law_alike fa fd) (T : Txt K mg CT CH) (G_Hall_things : MDef P w K mg base 1 CH "things" ["self"] (lSp K (dThings CT CH en))) (G_Hall_gone : MDef P w K mg base 1 CH "gone" ["self"] (lSp K (dGone CT CH en)))
    (G__law_met_things : DefD P w K mg base 1 "_law_met_things" ["_law_things"] (dMet CT CH en)) (G__law_count : DefD P w K mg base 1 "_law_count" ["_law_m", "_law_n"] dCount) (G__law_back : DefD P w K mg base 1 "_law_back" ["_law_value_here"] (dBack CT)) :
    FnOk P w K mg base CX0 2 fa fd ["_law_hall", "_law_things", "_law_m"] (lSp K (dAlike CT CH en)) := by
  refine dok F sc__law_alike (fun ds S q qx ⟨H, M, x, s, th, ks, e, _⟩ => by rw [e]; rfl) ⟨_, fun cdv A outer s H E hr => dss_cons (ds_if (PW.pt (dw_or (dt_cmp (op_neM (K := K) hr.units) (si_eqA true) (de_meth0 T.Hall_ G_Hall_things (hr.mono (by decide)) (de_var 0)) (de_callB (SD.call_sortedDL rfl) si_sortDL (by rfl) T.sorted (by decide +kernel) (da_cons (de_dget (hu_of hr) (de_var 2) (de_str) (fun _ _ => rfl)) da_nil)) (nomark _)) (dw_or1 (dt_cmp (op_neM (K := K) hr.units) (si_eqA true) (de_meth0 T.Hall_ G_Hall_gone (hr.mono (by decide)) (de_var 0)) (de_dget (hu_of hr) (de_var 2) (de_str) (fun _ _ => rfl)) (nomark _)))))
        (dss_one (ds_ret (de_bl)))
        (dss_nil))
      (dss_cons (ds_set (i := 3) sc__law_alike.nd rfl (Or.inr rfl) (de_call G__law_met_things (hr.mono (by decide)) (by rfl) (da_cons (de_var 1) da_nil)))
      (dss_cons (ds_lock (ds_forS PassesOwn.never rfl (di_keys (de_dget (hu_of hr) (de_var 2) (de_str) (fun _ _ => rfl))) (dg_name (i := 4) sc__law_alike.nd rfl (Or.inr rfl))
        (dss_one (ds_if (dt_din (hu_of hr) (de_var 4) (de_var 3))
          (dss_cons (ds_lock (ds_setLcS (i := 5) (own := [("_law_key_here", 6)]) (gc_name (j := 6) (by decide)) rfl sc__law_alike.nd rfl rfl (sw_true rfl rfl rfl (by decide +kernel)) (di_keys (de_fld T.Thing_ (by decide +kernel) (de_dget (hu_of hr) (de_var 3) (de_var 4) (fun _ _ => rfl)))) (blkOk_by (N := N__law_alike) (sc := defScope s__law_alike) (by decide +kernel)) (fun _ _ _ _ _ => pg_name (i := 6) sc__law_alike.nd rfl (Or.inl rfl)) (fun _ _ _ _ _ => dts_nil) (fun _ _ _ _ _ => de_tup (da_cons (de_var 6) (da_cons (de_call G__law_back (hr.mono (by decide)) (by rfl) (da_cons (de_dget (hu_of hr) (de_fld T.Thing_ (by decide +kernel) (de_dget (hu_of hr) (de_var 3) (de_var 4) (fun _ _ => rfl))) (de_var 6) (fun _ _ => rfl)) da_nil)) da_nil)))))
          (dss_one (ds_if (PW.pt (dw_or (dt_cmp op_ne si_ne (de_fld T.Thing_ (by decide +kernel) (de_dget (hu_of hr) (de_var 3) (de_var 4) (fun _ _ => rfl))) (de_call G__law_count (hr.mono (by decide)) (by rfl) (da_cons (de_var 2) (da_cons (de_var 4) da_nil))) (nomark _)) (dw_or1 (dt_cmp (op_neM (K := K) hr.units) (si_eqA true) (de_var 5) (de_dget (hu_of hr) (de_dget (hu_of hr) (de_var 2) (de_str) (fun _ _ => rfl)) (de_var 4) (fun _ _ => rfl)) (nomark _)))))
            (dss_one (ds_ret (de_bl)))
            (dss_nil))))
          (dss_nil)))))
      (dss_one (ds_ret (de_bl))))), fun ds S q qx ⟨H, M, x, s, th, ks, hd, R, RM, W, G, hth, kn, hap, hk6, ap, hq⟩ => ?_⟩
  subst hd
  walk_at "dl"
  refine needOf (methOf (x := .non) (hrep_hall R) rfl) ?_
  walk_at "dl"
  refine ⟨H, s, rfl, R, W, fun ys pm pw => ?_⟩
  walk_at "dl"
  refine dgetOf (m_m RM) rfl mg_parts ?_
  walk_at "dl"
  refine sortOf RM W fun zs pm2 pw2 => ?_
  have e : ys = zs := sorted_eq (pm.trans pm2.symm) pw pw2
  subst e
  walk_at "dl"
  refine neASame (p' := .list (ys.map D.int)) rfl rfl (ints_any ys) (by rw [ints_deep]; exact Nat.le_of_ble_eq_true rfl) ?_
  walk_at "dl"
  refine needOf (methOf (x := .non) (hrep_hall R) rfl) ?_
  walk_at "dl"
  refine ⟨H, s, rfl, R, ?_⟩
  walk_at "dl"
  refine dgetOf (m_m RM) rfl mg_left ?_
  walk_at "dl"
  refine neASame (p' := .list (nD s.left)) rfl (by simp only [res]; rw [m_left RM]) (by rw [nD_ints]; exact ints_any _) (by rw [nD_ints, ints_deep]; exact Nat.le_of_ble_eq_true rfl) ?_
  walk_at "dl"
  refine ⟨H, s, th, ks, rfl, R, W, hth, kn, hap, fun p ks' hp kn' sub => ?_⟩
  walk_at "dl"
  have hm1 := m_m RM
  have np1 : ∀ {a : Addr}, S a ≠ none → a ≠ p := fun h z => h (by rw [z]; exact hp)
  have RM1 : MRep M x s (put S p (.dct (thL H ks'))) := ⟨fun {l o} h => by rw [put_ne (np1 (by rw [RM.at_ h]; exact nofun))]; exact RM.at_ h, RM.inj⟩
  have R1 : HRep CT CH en H s (put S p (.dct (thL H ks'))) := ⟨fun {l o} h => by rw [put_ne (np1 (by rw [R.at_ h]; exact nofun))]; exact R.at_ h, R.inj⟩
  generalize hS1 : put S p (.dct (thL H ks')) = S1 at RM1 R1 ⊢
  have hp1 : S1 p = some (.dct (thL H ks')) := by rw [← hS1]; exact put_same
  refine lockOf (m_parts RM1) fun od xs => ?_
  have npp : M .parts ≠ p := np1 (by rw [m_parts RM]; exact nofun)
  walk_at "dl"
  refine dgetOf (by rw [put_ne (RM1.ne (l := .m) (l' := .parts) nofun nofun nofun)]; exact m_m RM1) rfl mg_parts ?_
  walk_at "dl"
  refine skOf put_same ?_
  generalize hS2 : put S1 (M .parts) (.lck od xs (plD M s.there)) = S2
  have hap2 : ∀ l, hC CT CH en H s l ≠ none → H.a l ≠ M .parts := fun l hl => ap l .parts hl nofun
  have R2 : HRep CT CH en H s S2 := ⟨fun {l o} h => by rw [← hS2, put_ne (hap2 l (nn h))]; exact R1.at_ h, R1.inj⟩
  have hp2 : S2 p = some (.dct (thL H ks')) := by rw [← hS2, put_ne (Ne.symm npp)]; exact hp1
  have hL2 : S2 (M .parts) = some (.lck od xs (plD M s.there)) := by rw [← hS2]; exact put_same
  have hm2 : S2 (M .m) = some (.dct (mKvs M x s.many (rowM M s.row) s.lasts)) := by rw [← hS2, put_ne (RM1.ne (l := .m) (l' := .parts) nofun nofun nofun)]; exact m_m RM1
  refine forSOf (fun j δ S' => S' = S2 ∧ ∃ z4 z5 z6, δ = [some (.ref (H.a .hall)), some (.ref th), some (.ref (M .m)), some (.ref p), z4, z5, z6]) ⟨rfl, _, _, _, rfl⟩ hL2 ?_ ?_
  · rintro j d δ S' hj _ ⟨rfl, z4, z5, z6, rfl⟩
    unfold plD at hj
    rw [List.map_map, List.getElem?_map] at hj
    obtain ⟨n, hnj, hd⟩ := Option.map_eq_some_iff.mp hj
    have hd : D.int (n : Int) = d := hd
    subst hd
    have hn := List.mem_of_getElem? hnj
    have hb := W.tin n hn
    walk_at "dl"
    refine dinOf hp2 rfl ?_
    rw [thL_some]
    by_cases hk : n ∈ ks'
    rotate_left
    · rw [decide_eq_false hk]
      walk_at "dl"
      exact ⟨hL2, _, _, _, rfl⟩
    rw [decide_eq_true hk]
    have rt := hrep_t R2 hb.1 hb.2
    have rpd := hrep_pd R2 hb.1 hb.2
    have rpl : S' (M (.pl n)) = some (.lst ((s.parts n).map pM)) := by rw [← hS2, put_ne (RM1.ne (l := .pl n) (l' := .parts) (nn (pl_live (.inl hn))) nofun nofun)]; exact m_pl RM1 (.inl hn)
    walk_at "dl"
    refine lockOf rpd fun od2 xs2 => ?_
    walk_at "dl"
    have npd : p ≠ H.a (.pd n) := Ne.symm (np1 (by rw [hrep_pd R hb.1 hb.2]; exact nofun))
    have nt : ∀ i, 1 ≤ i → i ≤ s.many → H.a (.t i) ≠ H.a (.pd n) := fun i h1 h2 => R.ne (nn (hC_t h1 h2)) (nn (hC_pd hb.1 hb.2)) nofun
    generalize hS3 : put S' (H.a (.pd n)) (.lck od2 xs2 ((s.parts n).map fun kv => ((kv.1, vD H kv.2) : Key × D))) = S3
    have hL3 : S3 (H.a (.pd n)) = some (.lck od2 xs2 ((s.parts n).map fun kv => ((kv.1, vD H kv.2) : Key × D))) := by rw [← hS3]; exact put_same
    have hp3 : S3 p = some (.dct (thL H ks')) := by rw [← hS3, put_ne npd]; exact hp2
    have ht3 : HRepX CT H s S3 := fun i h1 h2 => by rw [← hS3, put_ne (nt i h1 h2)]; exact hrep_t R2 h1 h2
    refine dgetOf hp3 rfl (thL_get hk) ?_
    walk_at "dl"
    refine fldOf (ht3 n hb.1 hb.2) th_parts ?_
    walk_at "dl"
    refine skOf hL3 ?_
    refine lcSOf (fun i acc => acc = ((s.parts n).take i).map pM) (by rw [List.length_map, List.length_map]; have := W.plen n; omega) (fun p' acc hp' => by rw [put_ne (sto_ne hL3 hp')]; exact hL3) rfl ?_ ?_
    · rintro p' hp' i d acc hi rfl
      rw [List.map_map, List.getElem?_map] at hi
      obtain ⟨kv, hkv, hd⟩ := Option.map_eq_some_iff.mp hi
      have hd : dK kv.1 = d := hd
      subst hd
      have hvo := W.pv n kv (List.mem_of_getElem? hkv)
      have hgv : gval ((s.parts n).map fun kv => ((kv.1, vD H kv.2) : Key × D)) kv.1 = some (vD H kv.2) := by
        rw [gval_vD, gval_mem (W.key n) hkv]
        rfl
      have hX : HRepX CT H s (put S3 p' (.lst (((s.parts n).take i).map pM))) := fun j h1 h2 => by rw [put_ne (sto_ne (ht3 j h1 h2) hp')]; exact ht3 j h1 h2
      walk_at "dl"
      refine dgetOf (by rw [put_ne (sto_ne hp3 hp')]; exact hp3) rfl (thL_get hk) ?_
      walk_at "dl"
      refine fldOf (hX n hb.1 hb.2) th_parts ?_
      walk_at "dl"
      refine dgetOfR (.inr ⟨od2, xs2, by rw [put_ne (sto_ne hL3 hp')]; exact hL3⟩) (keyD_dK kv.1) hgv ?_
      walk_at "dl"
      refine ⟨H, s, kv.2, rfl, hX, hvo, ?_⟩
      walk_at "dl"
      refine LcO.of hp' ?_
      rw [List.take_add_one, hkv, List.map_append]
      rfl
    · rintro acc rfl
      have el : ((s.parts n).take (List.map (fun kv : Key × D => dK kv.1) ((s.parts n).map fun kv => ((kv.1, vD H kv.2) : Key × D))).length) = s.parts n := by rw [List.length_map, List.length_map, List.take_length]
      rw [el]
      refine ⟨hL3, ?_⟩
      rw [← hS3, put_put, put_self rpd]
      walk_at "dl"
      refine dgetOf hp2 rfl (thL_get hk) ?_
      walk_at "dl"
      refine fldOf rt th_count ?_
      walk_at "dl"
      refine ⟨M, x, s, n, rfl, .inr ⟨S1, od, xs, RM1, hS2.symm⟩, W, ?_⟩
      rw [G.eq n]
      walk_at "dl"
      refine dgetOf hm2 rfl mg_parts ?_
      walk_at "dl"
      refine dgetOfR (.inr ⟨od, xs, hL2⟩) rfl (plD_get hn) ?_
      walk_at "dl"
      refine neASame (p' := .list ((s.parts n).map pM)) rfl (by simp only [res]; rw [rpl]) (pairs_any W n) (pairs_deep W n) ?_
      walk_at "dl"
      exact ⟨hL2, _, _, _, rfl⟩
  · rintro δ S' _ ⟨rfl, z4, z5, z6, rfl⟩
    refine ⟨hL2, ?_⟩
    walk_at "dl"
    rw [← hS2, put_put, put_self (m_parts RM1), ← hS1]
    exact hq p _ hp
end
end K

set_option Elab.async false
set_option linter.all false
set_option maxRecDepth 100000
namespace K
open PySem L2 Evl EX DL HM
/-- a deed with which a hall is begun -/
def Bg : Dl → Prop
  | .new _ => True
  | .hold _ => True
  | .part (.put _ k v) => k ∈ K6 ∧ ∀ y, v = .no y → NoTh y
  | _ => False
/-- deeds so far -/
structure Bn (w p : Addr) (S0 : Sto) (c : Nat) (S : Sto) (dl : List Dl) : Prop where
  at_ : S p = some (.lst (dl.map Dl.d))
  bg : ∀ d ∈ dl, Bg d
  le : dl.length ≤ c
  wl : Well S w
  fr : ∀ y, y ≠ w → y ≠ p → S y = S0 y
section
variable {w p : Addr} {S0 S S' : Sto} {c : Nat} {dl : List Dl}
theorem Bn.dig (B : Bn w p S0 c S dl) (hpw : p ≠ w) (hw : Well S' w) (f : ∀ y, y ≠ w → S' y = S y) : Bn w p S0 c S' dl := ⟨by rw [f p hpw]; exact B.at_, B.bg, B.le, hw, fun y h1 h2 => by rw [f y h1]; exact B.fr y h1 h2⟩
theorem Bn.app (B : Bn w p S0 c S dl) (hpw : p ≠ w) {d : Dl} (h : Bg d) : Bn w p S0 (c + 1) (put S p (.lst (dl.map Dl.d ++ [d.d]))) (dl ++ [d]) := by
  refine ⟨by rw [put_same, List.map_append]; rfl, fun e he => ?_, ?_, ?_, fun y h1 h2 => by rw [put_ne h2]; exact B.fr y h1 h2⟩
  · rcases List.mem_append.mp he with h1 | h1
    · exact B.bg e h1
    · rw [List.mem_singleton.mp h1]; exact h
  · rw [List.length_append, List.length_singleton]; have := B.le; omega
  · obtain ⟨a, b, c, d, cs, g, r⟩ := B.wl
    exact ⟨a, b, c, d, cs, by rw [put_ne (Ne.symm hpw)]; exact g, r⟩
theorem Bn.mono (B : Bn w p S0 c S dl) {c' : Nat} (h : c ≤ c') : Bn w p S0 c' S dl := ⟨B.at_, B.bg, Nat.le_trans B.le h, B.wl, B.fr⟩
end
section
variable {P : Program} {w : World} {K : PySem.W.Frag} {mg : Str → Option Value} {base : Heap} {CT CH : Addr}
local macro_rules | `(tactic| walk_at "dl") => `(tactic| try simp only [↓x_neg, ↓x_lcS, ↓x_lockE, ↓x_eqA, ↓x_dictD, ↓x_disp, ↓x_pNil, ↓x_pCons, ↓x_forS, ↓x_diSL, ↓x_diKeys, ↓x_lock, ↓x_dictP, ↓x_fld, ↓x_fldS, ↓x_fldA, ↓x_meth, ↓x_make, ↓x_dget, ↓x_din, ↓x_dget1, ↓x_dget2, ↓x_dpop, ↓x_dput, ↓x_listD, ↓x_sortDI, ↓x_lenD, ↓x_isiC, x_icS, x_icI, x_icB, x_icN, x_ioS, x_ioI, x_ioB, x_ioN, ↓x_gSub, ↓x_sortDL, ↓x_eqO, ↓x_ninA, x_catN, x_isBB, x_isBN, x_isBI, x_isBS, x_isBR, ↓x_seq, ↓x_nx, ↓x_pass, ↓x_brk, ↓x_cnt, ↓x_drop, ↓x_ret, ↓x_retN, ↓x_ifS, ↓x_set, ↓x_asg, ↓x_gN, ↓x_gT, ↓x_gsC, ↓x_gsN, ↓x_var, x_rdv, ↓x_c, ↓x_op, ↓x_test, x_tst, ↓x_and, ↓x_or, ↓x_not, ↓x_andV, ↓x_orV, ↓x_notV, x_tstV, ↓x_ifE, x_true, x_false, ↓x_nil, ↓x_cons, ↓x_tup, ↓x_lst, ↓x_new, ↓x_newD, ↓x_call, ↓x_cb, x_oI, x_oIc, x_oS, x_addS, x_isN, x_notN, x_eqI, x_eqS, x_eqIS, x_eqSI, x_eqNS, x_neI, x_neS, x_neB, x_eqB, x_few, x_need, ↓x_ix, x_lenS, x_ixL0, x_ixT0, x_ixT1, x_ixT2, x_ixT3, x_ixT4, x_lenL, x_lenT, x_lenC, x_listL, x_listT, x_tupL, x_tupT, x_strI, x_strS, x_int1, x_intB, x_I1, x_I2, x_cat, x_catT, ↓x_split, ↓x_for, ↓x_cut, ↓x_lc, ↓x_whl, ↓x_diL, ↓x_diT, ↓x_diS, x_itL, x_itC, x_itT, x_itS, ↓x_diR1, ↓x_diR2, ↓x_diE, x_enmL, x_enmC, ↓x_gcN, ↓x_gcT, ↓x_yes, ↓x_ml, ↓x_ms, x_strq, x_ss, x_ssc, x_ssi, ↓x_join, ↓x_aug, x_st2I, ↓x_sl, ↓x_noP, ↓x_part, x_intq, x_slL, x_slC, x_slS, ↓x_in, x_inT, x_inL, x_ninT, x_ninL, x_inN, x_inSS, x_inSI, x_inIS, x_inII, ↓x_sg, x_sgS, x_nsgS, ↓x_eqD, ↓x_inDD, x_mulS, ↓x_isi, x_isiS, x_isiI, x_isiB, x_isiN, x_isiL, x_isiT, ↓x_isTT, x_itI, x_itStr, x_itN, x_itB, x_itLst, x_itTup, ↓x_any, ↓x_all, ↓x_sum, ↓x_srtI, ↓x_srtS, ↓x_intS, ↓x_lenRf, ↓x_tupRf, ↓x_frz', x_flS, x_flI, x_flN, x_flB, x_cs_bool, x_isB_NoneType_bool, x_isB_bool_bool, x_isB_int_bool, x_isB_str_bool, x_isB_list_bool, x_isB_tuple_bool, x_isB_dict_bool, x_cs_int, x_isB_NoneType_int, x_isB_bool_int, x_isB_int_int, x_isB_str_int, x_isB_list_int, x_isB_tuple_int, x_isB_dict_int, x_cs_str, x_isB_NoneType_str, x_isB_bool_str, x_isB_int_str, x_isB_str_str, x_isB_list_str, x_isB_tuple_str, x_isB_dict_str, x_cs_list, x_isB_NoneType_list, x_isB_bool_list, x_isB_int_list, x_isB_str_list, x_isB_list_list, x_isB_tuple_list, x_isB_dict_list, x_cs_tuple, x_isB_NoneType_tuple, x_isB_bool_tuple, x_isB_int_tuple, x_isB_str_tuple, x_isB_list_tuple, x_isB_tuple_tuple, x_isB_dict_tuple, x_cs_dict, x_isB_NoneType_dict, x_isB_bool_dict, x_isB_int_dict, x_isB_str_dict, x_isB_list_dict, x_isB_tuple_dict, x_isB_dict_dict, List.all_cons, List.all_nil, Bool.and_self, Bool.or_false, Bool.or_true, Bool.false_or, Bool.true_or, wipeD, setD, DL.isNon, List.set_cons_zero, List.set_cons_succ, List.getElem?_cons_zero, List.getElem?_cons_succ, List.length_cons, List.length_nil, Nat.zero_add, List.cons_append, List.nil_append, decide_true, decide_false, Bool.not_true, Bool.not_false, true_and, and_true, startD, List.map_cons, List.map_nil, Nat.reduceSub, Nat.reduceLeDiff, Nat.zero_le, Int.reduceLT, Int.reduceLE, and_self, Nat.reduceAdd, List.replicate])
def dBegun : SpD := fun ds S k _ => ∃ (w : Addr) (m : D) (n : Nat), ds = [.ref w, m, .int (n : Int)] ∧ Well S w ∧ 1 ≤ n ∧ n ≤ 12 ∧ ∀ (dl : List Dl) S', (∀ d ∈ dl, Bg d) → dl.length ≤ 100 → Well S' w → (∀ y, y ≠ w → S' y = S y) → k (.list (dl.map Dl.d)) S'
theorem ok_begun {fa : Addr} {fd : FuncData} (F : Fun K "_law_begun" "_law_begun" s__law_begun fa fd) (T : Txt K mg CT CH) (G__law_dig : DefD P w K mg base 2 "_law_dig" ["_law_well_here", "_law_most"] dDig) (G__law_key : DefD P w K mg base 3 "_law_key" ["_law_well_here"] dKey) : FnOk P w K mg base CX0 4 fa fd ["_law_well_here", "_law_m", "_law_many"] (lSp K dBegun) := by
  refine dok F sc__law_begun (fun ds S q qx ⟨w, m, n, e, _⟩ => by rw [e]; rfl) ⟨_, fun cdv A outer s H E hr => dss_cons (ds_set (i := 3) sc__law_begun.nd rfl (Or.inl rfl) (de_new (da_nil)))
      (dss_cons (ds_for PassesOwn.never rfl (di_range1 (by rfl) T.range (da_cons (de_var 2) da_nil)) (dg_name (i := 4) sc__law_begun.nd rfl (Or.inl rfl))
        (dss_cons (ds_expr (de_ml PySem.F.slot_list_append PySem.F.type_list_append mt_append si_app (de_var 3) (da_cons (de_tup (da_cons (de_str) (da_cons (de_ix ix_seq (si_ix rfl) (de_lst (da_cons (de_str) (da_cons (de_str) (da_cons (de_str) (da_cons (de_str) da_nil))))) (de_call G__law_dig (hr.mono (by decide)) (by rfl) (da_cons (de_var 0) (da_cons (de_int) da_nil))) (fun _ _ => rfl)) da_nil))) da_nil)))
        (dss_one (ds_if (dt_cmp op_gt si_gt (de_call G__law_dig (hr.mono (by decide)) (by rfl) (da_cons (de_var 0) (da_cons (de_int) da_nil))) (de_int) (nomark _))
          (dss_one (ds_expr (de_ml PySem.F.slot_list_append PySem.F.type_list_append mt_append si_app (de_var 3) (da_cons (de_tup (da_cons (de_str) (da_cons (de_tup (da_cons (de_str) (da_cons (de_op op_add si_add (de_var 4) (de_int)) da_nil))) da_nil))) da_nil))))
          (dss_nil)))))
      (dss_cons (ds_for PassesOwn.never rfl (di_range1 (by rfl) T.range (da_cons (de_var 2) da_nil)) (dg_name (i := 4) sc__law_begun.nd rfl (Or.inl rfl))
        (dss_one (ds_for PassesOwn.never rfl (di_range1 (by rfl) T.range (da_cons (de_call G__law_dig (hr.mono (by decide)) (by rfl) (da_cons (de_var 0) (da_cons (de_int) da_nil))) da_nil)) (dg_name (i := 5) sc__law_begun.nd rfl (Or.inl rfl))
          (dss_cons (ds_set (i := 6) sc__law_begun.nd rfl (Or.inl rfl) (de_tup (da_cons (de_str) (da_cons (de_op op_add si_add (de_int) (de_call G__law_dig (hr.mono (by decide)) (by rfl) (da_cons (de_var 0) (da_cons (de_var 2) da_nil)))) da_nil))))
          (dss_cons (ds_if (dt_cmp op_eq si_eq (de_call G__law_dig (hr.mono (by decide)) (by rfl) (da_cons (de_var 0) (da_cons (de_int) da_nil))) (de_int) (nomark _))
            (dss_one (ds_set (i := 6) sc__law_begun.nd rfl (Or.inl rfl) (de_call G__law_dig (hr.mono (by decide)) (by rfl) (da_cons (de_var 0) (da_cons (de_int) da_nil)))))
            (dss_nil))
          (dss_one (ds_expr (de_ml PySem.F.slot_list_append PySem.F.type_list_append mt_append si_app (de_var 3) (da_cons (de_tup (da_cons (de_str) (da_cons (de_tup (da_cons (de_str) (da_cons (de_op op_add si_add (de_var 4) (de_int)) da_nil))) (da_cons (de_call G__law_key (hr.mono (by decide)) (by rfl) (da_cons (de_var 0) da_nil)) (da_cons (de_var 6) da_nil))))) da_nil)))))))))
      (dss_one (ds_ret (de_frz 3))))), fun ds S q qx ⟨w, m, n, hd, hw, n1, n2, hq⟩ => ?_⟩
  subst hd
  walk_at "dl"
  refine freshOf fun p hp => ?_
  have hpw : p ≠ w := fun z => by obtain ⟨_, _, _, _, _, g, _⟩ := hw; rw [← z, hp] at g; cases g
  have B0 : Bn w p S 0 (put S p (.lst [])) [] := ⟨put_same, fun _ h => (by cases h), Nat.le_refl _, by obtain ⟨a, b, c, d, cs, g, r⟩ := hw; exact ⟨a, b, c, d, cs, by rw [put_ne (Ne.symm hpw)]; exact g, r⟩, fun y h1 h2 => put_ne h2⟩
  walk_at "dl"
  refine rngOf (by omega) (by omega) ?_
  refine forOf (fun i δ S' => (∃ dl, Bn w p S (2 * i) S' dl) ∧ ∃ z4 z5 z6, δ = [some (.ref w), some m, some (.int (n : Int)), some (.ref p), z4, z5, z6]) ⟨⟨[], B0⟩, _, _, _, rfl⟩ ?_ ?_
  · rintro i d δ S' hi ⟨⟨dl, B⟩, z4, z5, z6, rfl⟩
    obtain ⟨rfl, hin⟩ := rngD_get hi
    have hle := B.le
    walk_at "dl"
    refine needOf (isLOf B.at_) ?_
    walk_at "dl"
    refine ⟨w, 4, rfl, B.wl, by decide, by decide, fun r S1 hr hw1 f1 => ?_⟩
    have B1 := B.dig hpw hw1 f1
    walk_at "dl"
    have : ∃ f, [D.str (Str.ofString "list"), .str (Str.ofString "being"), .str (Str.ofString "scope"), .str (Str.ofString "kind")][r]? = some (.str f) := by
      rcases r with _ | _ | _ | _ | r
      · exact ⟨_, rfl⟩
      · exact ⟨_, rfl⟩
      · exact ⟨_, rfl⟩
      · exact ⟨_, rfl⟩
      · omega
    obtain ⟨f, hf⟩ := this
    refine ixAt (.inl rfl) hf ?_
    walk_at "dl"
    refine appOf B1.at_ (by rw [List.length_map]; omega) ?_
    have B2 := B1.app hpw (d := .new f) trivial
    walk_at "dl"
    refine ⟨w, 5, rfl, B2.wl, by decide, by decide, fun r S2 hr2 hw2 f2 => ?_⟩
    have B3 := B2.dig hpw hw2 f2
    walk_at "dl"
    refine br (fun hb => ?_) (fun hb => ?_)
    · walk_at "dl"
      refine needOf (isLOf B3.at_) ?_
      walk_at "dl"
      refine appOf B3.at_ (by rw [List.length_map, List.length_append, List.length_singleton]; omega) ?_
      have B4 := B3.app hpw (d := .hold (i + 1)) trivial
      walk_at "dl"
      rw [show (0 : Int) + (i : Int) + 1 = ((i + 1 : Nat) : Int) by omega]
      exact ⟨⟨_, B4.mono (by omega)⟩, _, _, _, rfl⟩
    · walk_at "dl"
      exact ⟨⟨_, B3.mono (by omega)⟩, _, _, _, rfl⟩
  · rintro δ S' ⟨⟨dl, B⟩, z4, z5, z6, rfl⟩
    rw [rngD_len] at B
    walk_at "dl"
    refine rngOf (by omega) (by omega) ?_
    refine forOf (fun i δ S' => (∃ dl, Bn w p S (2 * (n : Int).toNat + 3 * i) S' dl) ∧ ∃ z4 z5 z6, δ = [some (.ref w), some m, some (.int (n : Int)), some (.ref p), z4, z5, z6]) ⟨⟨dl, B⟩, _, _, _, rfl⟩ ?_ ?_
    · rintro i d δ S' hi ⟨⟨dl, B⟩, z4, z5, z6, rfl⟩
      obtain ⟨rfl, hin⟩ := rngD_get hi
      walk_at "dl"
      refine ⟨w, 4, rfl, B.wl, by decide, by decide, fun r S1 hr hw1 f1 => ?_⟩
      have B1 := B.dig hpw hw1 f1
      walk_at "dl"
      refine rngOf (by omega) (by omega) ?_
      refine forOf (fun j δ S' => (∃ dl, Bn w p S (2 * (n : Int).toNat + 3 * i + j) S' dl) ∧ ∃ z5 z6, δ = [some (.ref w), some m, some (.int (n : Int)), some (.ref p), some (.int (0 + (i : Int))), z5, z6]) ⟨⟨dl, B1⟩, _, _, rfl⟩ ?_ ?_
      · rintro j d δ S' hj ⟨⟨dl, B⟩, z5, z6, rfl⟩
        obtain ⟨rfl, hjn⟩ := rngD_get hj
        have hle := B.le
        walk_at "dl"
        refine ⟨w, n, rfl, B.wl, by omega, by omega, fun r1 S1 hr1 hw1 f1 => ?_⟩
        have B1 := B.dig hpw hw1 f1
        walk_at "dl"
        refine ⟨w, 4, rfl, B1.wl, by decide, by decide, fun r2 S2 hr2 hw2 f2 => ?_⟩
        have B2 := B1.dig hpw hw2 f2
        walk_at "dl"
        refine br (fun hb => ?_) (fun hb => ?_)
        · walk_at "dl"
          refine ⟨w, 9, rfl, B2.wl, by decide, by decide, fun r3 S3 hr3 hw3 f3 => ?_⟩
          have B3 := B2.dig hpw hw3 f3
          walk_at "dl"
          refine needOf (isLOf B3.at_) ?_
          walk_at "dl"
          refine ⟨w, rfl, B3.wl, fun ky S4 hky hw4 f4 => ?_⟩
          have B4 := B3.dig hpw hw4 f4
          walk_at "dl"
          refine appOf B4.at_ (by rw [List.length_map]; omega) ?_
          have B5 := B4.app hpw (d := .part (.put (i + 1) ky (.no (.int (r3 : Int))))) ⟨hky, fun y hy => by cases hy; exact NoTh.int _⟩
          walk_at "dl"
          rw [show (0 : Int) + (i : Int) + 1 = ((i + 1 : Nat) : Int) by omega]
          exact ⟨⟨_, B5⟩, _, _, rfl⟩
        · have B3 := B2
          walk_at "dl"
          refine needOf (isLOf B3.at_) ?_
          walk_at "dl"
          refine ⟨w, rfl, B3.wl, fun ky S4 hky hw4 f4 => ?_⟩
          have B4 := B3.dig hpw hw4 f4
          walk_at "dl"
          refine appOf B4.at_ (by rw [List.length_map]; omega) ?_
          have B5 := B4.app hpw (d := .part (.put (i + 1) ky (.th (1 + r1)))) ⟨hky, fun y hy => by cases hy⟩
          walk_at "dl"
          rw [show (0 : Int) + (i : Int) + 1 = ((i + 1 : Nat) : Int) by omega, show 1 + (r1 : Int) = ((1 + r1 : Nat) : Int) by omega]
          exact ⟨⟨_, B5⟩, _, _, rfl⟩
      · rintro δ S' ⟨⟨dl, B⟩, z5, z6, rfl⟩
        rw [rngD_len] at B
        exact ⟨⟨_, B.mono (by omega)⟩, _, _, _, rfl⟩
    · rintro δ S' ⟨⟨dl, B⟩, z4, z5, z6, rfl⟩
      rw [rngD_len] at B
      have hle := B.le
      walk_at "dl"
      refine frzOf B.at_ ?_
      refine hq dl _ B.bg (by omega) ?_ fun y hy => ?_
      · obtain ⟨a, b, c, d, cs, g, r⟩ := B.wl
        exact ⟨a, b, c, d, cs, by rw [DL.del_ne (Ne.symm hpw)]; exact g, r⟩
      · by_cases z : y = p
        · rw [z, hp]; exact del_same
        · rw [DL.del_ne z]; exact B.fr y hy z
end
end K

set_option Elab.async false
set_option linter.all false
set_option maxRecDepth 100000
namespace K
open PySem L2 Evl EX DL HM
def H0 (hl th lf dx : Addr) : HA := { a := fun l => match l with | .hall => hl | .th => th | .lf => lf | _ => hl, dx := dx, dt := fun _ => hl }
theorem hrep0 {CT CH hl th lf dx : Addr} {en : D} {S : Sto} (e1 : S hl = some (.ins CH dx (haFs en (.int 0) (.ref th) (.ref lf) .non (.int 0)))) (e2 : S th = some (.dct [])) (e3 : S lf = some (.lst [])) : HRep CT CH en (H0 hl th lf dx) s0 S := by
  have n1 : hl ≠ th := fun z => by rw [z, e2] at e1; cases e1
  have n2 : hl ≠ lf := fun z => by rw [z, e3] at e1; cases e1
  have n3 : th ≠ lf := fun z => by rw [z, e3] at e2; cases e2
  have dead : ∀ n, ¬ (1 ≤ n ∧ n ≤ s0.many) := fun n h => by have : s0.many = 0 := rfl; omega
  refine ⟨fun {l o} h => ?_, fun {l l'} h h' e => ?_⟩
  · cases l with
    | hall => cases h; exact e1
    | th => cases h; exact e2
    | lf => cases h; exact e3
    | row => cases h
    | t n => rw [show hC CT CH en (H0 hl th lf dx) s0 (.t n) = none from if_neg (dead n)] at h; cases h
    | pd n => rw [show hC CT CH en (H0 hl th lf dx) s0 (.pd n) = none from if_neg (dead n)] at h; cases h
  · have live : ∀ l, hC CT CH en (H0 hl th lf dx) s0 l ≠ none → l = .hall ∨ l = .th ∨ l = .lf := fun l h => by
      cases l with
      | hall => exact .inl rfl
      | th => exact .inr (.inl rfl)
      | lf => exact .inr (.inr rfl)
      | row => exact absurd rfl h
      | t n => exact absurd (if_neg (dead n)) h
      | pd n => exact absurd (if_neg (dead n)) h
    rcases live l h with rfl | rfl | rfl <;> rcases live l' h' with rfl | rfl | rfl
    · rfl
    · exact absurd e n1
    · exact absurd e n2
    · exact absurd e.symm n1
    · rfl
    · exact absurd e n3
    · exact absurd e.symm n2
    · exact absurd e.symm n3
    · rfl
section
variable {CT CH : Addr} {k : Nat} {H : HA} {M : ML → Addr} {x : Mx} {s : Hs} {th w : Addr} {S S' : Sto}
theorem Lw.well (L : Lw CT CH k H M x s th w S) (hw : Well S' w) (f : ∀ y, y ≠ w → S' y = S y) : Lw CT CH k H M x s th w S' := by
  have htw : th ≠ w := fun z => by obtain ⟨_, _, _, _, _, g, _⟩ := L.wl; rw [← z, L.hth] at g; cases g
  exact ⟨⟨fun {l o} h => by rw [f _ (Ne.symm (L.hw l (nn h)))]; exact L.h.at_ h, L.h.inj⟩, m_keep L.m (fun l hl => Ne.symm (L.mw l hl)) f, L.ap, L.W, L.G, L.row, L.mo, L.kk, by rw [f _ htw]; exact L.hth, hw, L.ht, L.hw, L.mt, L.mw, L.lo, L.lm, L.ln⟩
theorem Lw.put (L : Lw CT CH k H M x s th w S) {p : Addr} (hp : S p = none) (o : O) : Lw CT CH k H M x s th w (DL.put S p o) := by
  have ne : ∀ {a : Addr} {o : O}, S a = some o → a ≠ p := fun h z => by rw [z, hp] at h; cases h
  refine ⟨⟨fun {l o} h => by rw [put_ne (ne (L.h.at_ h))]; exact L.h.at_ h, L.h.inj⟩, ⟨fun {l o} h => by rw [put_ne (ne (L.m.at_ h))]; exact L.m.at_ h, L.m.inj⟩, L.ap, L.W, L.G, L.row, L.mo, L.kk, by rw [put_ne (ne L.hth)]; exact L.hth, ?_, L.ht, L.hw, L.mt, L.mw, L.lo, L.lm, L.ln⟩
  obtain ⟨a, b, c, d, cs, g, r⟩ := L.wl
  exact ⟨a, b, c, d, cs, by rw [put_ne (ne g)]; exact g, r⟩
theorem Lw.mono (L : Lw CT CH k H M x s th w S) {k' : Nat} (h : k ≤ k') : Lw CT CH k' H M x s th w S := ⟨L.h, L.m, L.ap, L.W, L.G, L.row, L.mo, L.kk, L.hth, L.wl, L.ht, L.hw, L.mt, L.mw, Nat.le_trans L.lo h, Nat.le_trans L.lm h, Nat.le_trans L.ln h⟩
end
section
variable {P : Program} {w : World} {K : PySem.W.Frag} {mg : Str → Option Value} {base : Heap} {CT CH : Addr}
local macro_rules | `(tactic| walk_at "dl") => `(tactic| try simp only [↓x_neg, ↓x_lcS, ↓x_lockE, ↓x_eqA, ↓x_dictD, ↓x_disp, ↓x_pNil, ↓x_pCons, ↓x_forS, ↓x_diSL, ↓x_diKeys, ↓x_lock, ↓x_dictP, ↓x_fld, ↓x_fldS, ↓x_fldA, ↓x_meth, ↓x_make, ↓x_dget, ↓x_din, ↓x_dget1, ↓x_dget2, ↓x_dpop, ↓x_dput, ↓x_listD, ↓x_sortDI, ↓x_lenD, ↓x_isiC, x_icS, x_icI, x_icB, x_icN, x_ioS, x_ioI, x_ioB, x_ioN, ↓x_gSub, ↓x_sortDL, ↓x_eqO, ↓x_ninA, x_catN, x_isBB, x_isBN, x_isBI, x_isBS, x_isBR, ↓x_seq, ↓x_nx, ↓x_pass, ↓x_brk, ↓x_cnt, ↓x_drop, ↓x_ret, ↓x_retN, ↓x_ifS, ↓x_set, ↓x_asg, ↓x_gN, ↓x_gT, ↓x_gsC, ↓x_gsN, ↓x_var, x_rdv, ↓x_c, ↓x_op, ↓x_test, x_tst, ↓x_and, ↓x_or, ↓x_not, ↓x_andV, ↓x_orV, ↓x_notV, x_tstV, ↓x_ifE, x_true, x_false, ↓x_nil, ↓x_cons, ↓x_tup, ↓x_lst, ↓x_new, ↓x_newD, ↓x_call, ↓x_cb, x_oI, x_oIc, x_oS, x_addS, x_isN, x_notN, x_eqI, x_eqS, x_eqIS, x_eqSI, x_eqNS, x_neI, x_neS, x_neB, x_eqB, x_few, x_need, ↓x_ix, x_lenS, x_ixL0, x_ixT0, x_ixT1, x_ixT2, x_ixT3, x_ixT4, x_lenL, x_lenT, x_lenC, x_listL, x_listT, x_tupL, x_tupT, x_strI, x_strS, x_int1, x_intB, x_I1, x_I2, x_cat, x_catT, ↓x_split, ↓x_for, ↓x_cut, ↓x_lc, ↓x_whl, ↓x_diL, ↓x_diT, ↓x_diS, x_itL, x_itC, x_itT, x_itS, ↓x_diR1, ↓x_diR2, ↓x_diE, x_enmL, x_enmC, ↓x_gcN, ↓x_gcT, ↓x_yes, ↓x_ml, ↓x_ms, x_strq, x_ss, x_ssc, x_ssi, ↓x_join, ↓x_aug, x_st2I, ↓x_sl, ↓x_noP, ↓x_part, x_intq, x_slL, x_slC, x_slS, ↓x_in, x_inT, x_inL, x_ninT, x_ninL, x_inN, x_inSS, x_inSI, x_inIS, x_inII, ↓x_sg, x_sgS, x_nsgS, ↓x_eqD, ↓x_inDD, x_mulS, ↓x_isi, x_isiS, x_isiI, x_isiB, x_isiN, x_isiL, x_isiT, ↓x_isTT, x_itI, x_itStr, x_itN, x_itB, x_itLst, x_itTup, ↓x_any, ↓x_all, ↓x_sum, ↓x_srtI, ↓x_srtS, ↓x_intS, ↓x_lenRf, ↓x_tupRf, ↓x_frz', x_flS, x_flI, x_flN, x_flB, x_cs_bool, x_isB_NoneType_bool, x_isB_bool_bool, x_isB_int_bool, x_isB_str_bool, x_isB_list_bool, x_isB_tuple_bool, x_isB_dict_bool, x_cs_int, x_isB_NoneType_int, x_isB_bool_int, x_isB_int_int, x_isB_str_int, x_isB_list_int, x_isB_tuple_int, x_isB_dict_int, x_cs_str, x_isB_NoneType_str, x_isB_bool_str, x_isB_int_str, x_isB_str_str, x_isB_list_str, x_isB_tuple_str, x_isB_dict_str, x_cs_list, x_isB_NoneType_list, x_isB_bool_list, x_isB_int_list, x_isB_str_list, x_isB_list_list, x_isB_tuple_list, x_isB_dict_list, x_cs_tuple, x_isB_NoneType_tuple, x_isB_bool_tuple, x_isB_int_tuple, x_isB_str_tuple, x_isB_list_tuple, x_isB_tuple_tuple, x_isB_dict_tuple, x_cs_dict, x_isB_NoneType_dict, x_isB_bool_dict, x_isB_int_dict, x_isB_str_dict, x_isB_list_dict, x_isB_tuple_dict, x_isB_dict_dict, List.all_cons, List.all_nil, Bool.and_self, Bool.or_false, Bool.or_true, Bool.false_or, Bool.true_or, wipeD, setD, DL.isNon, List.set_cons_zero, List.set_cons_succ, List.getElem?_cons_zero, List.getElem?_cons_succ, List.length_cons, List.length_nil, Nat.zero_add, List.cons_append, List.nil_append, decide_true, decide_false, Bool.not_true, Bool.not_false, true_and, and_true, startD, List.map_cons, List.map_nil, Nat.reduceSub, Nat.reduceLeDiff, Nat.zero_le, Int.reduceLT, Int.reduceLE, and_self, Nat.reduceAdd, List.replicate])
def spLaw (K : PySem.W.Frag) : Sp := fun vs H Q _ => ∃ (a : Addr) (ns : List Int), vs = [.ref a] ∧ SqL K H a (ns.map V.int) ∧ ns.length ≤ 63 ∧ ∀ H', Q (.bl true) H'
def dLaw : SpD := fun ds S k _ => ∃ ns : List Int, ds = [.scr (ns.map D.int)] ∧ ns.length ≤ 63 ∧ ∀ S', k (.bl true) S'
theorem law_of (F : FnOk P w K mg base CX0 k f fd ps (lSp K dLaw)) : FnOk P w K mg base CX0 k f fd ps (spLaw K) := F.imp fun vs H Q E ⟨a, ns, hv, hs, hl, h⟩ =>
  ⟨H, [.scr (ns.map D.int)], fun _ => none, fun x _ => x = .bl true, fun _ _ _ => False, by rw [hv]; exact .one (.scr hs (rdl_ints ns)), ⟨Ex.refl H, fun _ _ z => nomatch z⟩, ⟨ns, rfl, hl, fun _ => rfl⟩, fun x S' v B' H' hx _ _ rv => by
    subst hx
    cases rd_bl rv
    exact h H', fun _ _ _ _ _ z => z.elim⟩
theorem ok_askm3 {fa : Addr} {fd : FuncData} (F : Fun K "_law_ask" "_law_ask" s__law_ask fa fd) (T : Txt K mg CT CH) : FnOk P w K mg base CX0 3 fa fd ["_law_m", "_law_n"] (lSp K (dAskM askNo ⟨[], false⟩)) :=
  FnOk.mono ((ok_askm_no F T).imp fun vs H Q E ⟨B, ds, S, k, x, rd, r, ⟨M, s, n, s', hd, R, _, _, _, ha, hq⟩, a, b⟩ => ⟨B, ds, S, k, x, rd, r, ⟨M, ⟨[], false⟩, s, n, hd, R, rfl, hq M S (by rw [show s' = s from ha]; exact MTr.refl R)⟩, a, b⟩) (by decide)
theorem ok_modelled9 {fa : Addr} {fd : FuncData} (h : FnOk P w K mg base CX0 7 fa fd ["_law_m", "_law_deed"] (lSp K (dModelled askNo (fun _ => 0) ⟨[], false⟩))) : FnOk P w K mg base CX0 9 fa fd ["_law_m", "_law_deed"] (lSp K (dModelled askNo (fun _ => 0) ⟨[], false⟩)) := h.mono (by decide)
end
end K

set_option Elab.async false
set_option linter.all false
set_option maxRecDepth 100000
/-! ### the sweep (no program in sight) -/
namespace HM
open PySem L2 DL
theorem Rch.mono {G G' : Nat → List Vl} {r r' : List Vl} (hr : ∀ n, Vl.th n ∈ r → Vl.th n ∈ r') (hg : ∀ k n, Vl.th n ∈ G k → Vl.th n ∈ G' k) {n : Nat} (h : Rch G r n) : Rch G' r' n := by
  induction h with
  | root h => exact .root (hr _ h)
  | step _ h ih => exact .step ih (hg _ _ h)
/-- what a thing's parts lead to -/
def ledP (s : Hs) (n : Nat) : List Vl := (s.parts n).map (·.2)
def Hs.ups (s : Hs) : List Nat → Hs
  | [] => s
  | n :: l => (s.up n).ups l
def Hs.downs (s : Hs) : List Nat → Hs
  | [] => s
  | n :: l => (s.down n).downs l
def Hs.gones (s : Hs) : List Nat → Hs
  | [] => s
  | n :: l => (s.gone n).gones l
def Hs.empts (s : Hs) : List Nat → Hs
  | [] => s
  | n :: l => ((s.emptied n (s.parts n)).bare n).empts l
def Hs.rowed (s : Hs) (r : Option (List Nat)) : Hs := { s with row := r }
inductive AskAll (ask : AskR) : Hs → List Nat → Hs → Prop where
  | nil {s : Hs} : AskAll ask s [] s
  | cons {s s1 s2 : Hs} {n : Nat} {l : List Nat} : n ∈ s.there → ask s n s1 → AskAll ask s1 l s2 → AskAll ask s (n :: l) s2
/-- what of some is not reached, rising -/
structure Lost (s : Hs) (base : Nat → Prop) (rs : List Vl) (lost : List Nat) : Prop where
  srt : lost.Pairwise (· < ·)
  mem : ∀ n, n ∈ lost ↔ base n ∧ ¬ Rch (ledP s) rs n
def others (s : Hs) (lost : List Nat) : List Nat := s.there.filter fun n => decide (n ∉ lost)
inductive Swept (ask : AskR) (rs : List Vl) : Hs → List Nat → Hs → Prop where
  | busy {s : Hs} : (0 < s.lasts ∨ s.row ≠ none) → Swept ask rs s [] s
  | mk {s s1 s2 : Hs} {lost0 lost : List Nat} {f : Nat} : s.lasts = 0 → s.row = none → Lost s (· ∈ s.there) rs lost0 → AskAll ask (s.ups lost0) lost0 s1 →
      Lost (s1.downs lost0) (· ∈ lost0) (rs ++ (others (s1.downs lost0) lost0).map Vl.th) lost → (∀ n ∈ lost0, n ∈ s1.there) → Work ask f ((((s1.downs lost0).rowed (some [])).gones lost).empts lost) s2 → Swept ask rs s lost s2
theorem lost_uniq {s : Hs} {base : Nat → Prop} {rs : List Vl} : ∀ {l m : List Nat}, Lost s base rs l → Lost s base rs m → l = m := by
  have key : ∀ {l m : List Nat}, l.Pairwise (· < ·) → m.Pairwise (· < ·) → (∀ j, j ∈ l ↔ j ∈ m) → l = m := by
    intro l
    induction l with
    | nil =>
      intro m _ _ h
      cases m with
      | nil => rfl
      | cons b m => exact absurd ((h b).mpr (List.mem_cons_self ..)) (by simp)
    | cons a l ih =>
      intro m h1 h2 h
      cases m with
      | nil => exact absurd ((h a).mp (List.mem_cons_self ..)) (by simp)
      | cons b m =>
        rw [List.pairwise_cons] at h1 h2
        have e : a = b := by
          rcases List.mem_cons.mp ((h a).mp (List.mem_cons_self ..)) with e | e
          · exact e
          · rcases List.mem_cons.mp ((h b).mpr (List.mem_cons_self ..)) with e2 | e2
            · exact e2.symm
            · have := h2.1 a e
              have := h1.1 b e2
              omega
        subst e
        rw [ih h1.2 h2.2 fun j => ?_]
        constructor
        · intro hj
          rcases List.mem_cons.mp ((h j).mp (List.mem_cons_of_mem _ hj)) with e | e
          · have := h1.1 j hj; omega
          · exact e
        · intro hj
          rcases List.mem_cons.mp ((h j).mpr (List.mem_cons_of_mem _ hj)) with e | e
          · have := h2.1 j hj; omega
          · exact e
  intro l m a b
  exact key a.srt b.srt fun j => (a.mem j).trans (b.mem j).symm
section
variable {s : Hs} {n : Nat}
/-- what ups and downs leave -/
theorem ups_rest : ∀ (l : List Nat) (s : Hs), (s.ups l).there = s.there ∧ (s.ups l).parts = s.parts ∧ (s.ups l).rest = s.rest ∧ (s.ups l).row = s.row ∧ (s.ups l).many = s.many ∧ (s.ups l).own = s.own ∧ (s.ups l).lasts = s.lasts ∧ (s.ups l).mine = s.mine ∧ (s.ups l).outer = s.outer ++ l ∧ (s.ups l).waits = s.waits
  | [], s => ⟨rfl, rfl, rfl, rfl, rfl, rfl, rfl, rfl, (List.append_nil _).symm, rfl⟩
  | n :: l, s => by
    obtain ⟨a, b, c, d, e, f, g, h, i, j⟩ := ups_rest l (s.up n)
    refine ⟨a, b, c, d, e, f, g, h, ?_, j⟩
    show ((s.up n).ups l).outer = _
    rw [i]
    show (s.outer ++ [n]) ++ l = _
    rw [List.append_assoc]
    rfl
theorem ups_ends : ∀ (l : List Nat) (s : Hs), (s.ups l).ends = s.ends
  | [], _ => rfl
  | n :: l, s => ups_ends l (s.up n)
theorem downs_rest : ∀ (l : List Nat) (s : Hs), (s.downs l).there = s.there ∧ (s.downs l).parts = s.parts ∧ (s.downs l).rest = s.rest ∧ (s.downs l).row = s.row ∧ (s.downs l).many = s.many ∧ (s.downs l).own = s.own ∧ (s.downs l).lasts = s.lasts ∧ (s.downs l).mine = s.mine ∧ (s.downs l).waits = s.waits
  | [], s => ⟨rfl, rfl, rfl, rfl, rfl, rfl, rfl, rfl, rfl⟩
  | n :: l, s => downs_rest l (s.down n)
theorem Wf.ups : ∀ {l : List Nat} {s : Hs}, Wf s → Wf (s.ups l)
  | [], _, w => w
  | n :: l, s, w => Wf.ups (l := l) (w.up n)
theorem Wf.downs : ∀ {l : List Nat} {s : Hs}, Wf s → Wf (s.downs l)
  | [], _, w => w
  | n :: l, s, w => Wf.downs (l := l) (w.down n)
theorem Good.ups : ∀ {l : List Nat} {s : Hs}, Good s → (∀ n ∈ l, n ≤ s.many) → Good (s.ups l)
  | [], _, g, _ => g
  | n :: l, s, g, h => Good.ups (l := l) (g.up (h n (List.mem_cons_self ..))) fun i hi => h i (List.mem_cons_of_mem _ hi)
theorem Good.downs : ∀ {l : List Nat} {s : Hs}, Good s → l.Nodup → (∀ n ∈ l, n ∈ s.outer) → Good (s.downs l)
  | [], _, g, _, _ => g
  | n :: l, s, g, nd, h => by
    rw [List.nodup_cons] at nd
    refine Good.downs (l := l) (g.down (h n (List.mem_cons_self ..))) nd.2 fun i hi => ?_
    exact (List.mem_erase_of_ne (fun e : i = n => nd.1 (e ▸ hi))).mpr (h i (List.mem_cons_of_mem _ hi))
theorem Wf.rowed0 {s : Hs} (w : Wf s) : Wf (s.rowed (some [])) := ⟨w.nd, w.tin, w.len, w.most, w.key, w.plen, w.pv, w.wnd, w.win, fun l hl => by cases hl; exact ⟨by simp, fun _ h => (by cases h)⟩, w.pz, w.az, w.kok⟩
theorem Good.rowed {s : Hs} (g : Good s) (r : Option (List Nat)) : Good (s.rowed r) := ⟨g.cnt, g.rnd, g.rt, g.rin, g.oin⟩
/-- many gone at once -/
structure Gns (s s' : Hs) (l : List Nat) : Prop where
  there : ∀ n, n ∈ s'.there ↔ n ∈ s.there ∧ n ∉ l
  rest : s'.rest = s.rest ++ l
  parts : s'.parts = s.parts
  row : s'.row = s.row
  many : s'.many = s.many
  own : s'.own = s.own
  outer : s'.outer = s.outer
  mine : s'.mine = s.mine
  lasts : s'.lasts = s.lasts
  W : Wf s'
  G : Good s'
theorem gones_ok : ∀ {l : List Nat} {s : Hs}, Wf s → Good s → l.Nodup → (∀ n ∈ l, n ∈ s.there) → Gns s (s.gones l) l
  | [], s, w, g, _, _ => ⟨fun n => by show n ∈ s.there ↔ _; simp, (List.append_nil _).symm, rfl, rfl, rfl, rfl, rfl, rfl, rfl, w, g⟩
  | n :: l, s, w, g, nd, h => by
    rw [List.nodup_cons] at nd
    have hn := h n (List.mem_cons_self ..)
    have K := gones_ok (l := l) (w.gone hn) (g.gone w hn) nd.2 fun i hi => List.mem_filter.mpr ⟨h i (List.mem_cons_of_mem _ hi), by simpa using fun e : i = n => nd.1 (e ▸ hi)⟩
    refine ⟨fun i => ?_, ?_, K.parts, K.row, K.many, K.own, K.outer, K.mine, K.lasts, K.W, K.G⟩
    · rw [show (s.gones (n :: l)) = (s.gone n).gones l from rfl, K.there i]
      show i ∈ s.there.filter (fun j => decide (j ≠ n)) ∧ _ ↔ _
      rw [List.mem_filter, decide_eq_true_iff, List.mem_cons]
      exact ⟨fun ⟨⟨a, b⟩, c⟩ => ⟨a, fun z => z.elim b c⟩, fun ⟨a, b⟩ => ⟨⟨a, fun z => b (.inl z)⟩, fun z => b (.inr z)⟩⟩
    · rw [show (s.gones (n :: l)) = (s.gone n).gones l from rfl, K.rest]
      show (s.rest ++ [n]) ++ l = _
      rw [List.append_assoc]
      rfl
/-- emptied one by one -/
structure Ems (s s' : Hs) (l : List Nat) : Prop where
  there : s'.there = s.there
  rest : ∀ n, n ∈ s'.rest ↔ n ∈ s.rest ∧ n ∉ l
  shr : ∀ n, (s'.parts n).Sublist (s.parts n)
  bare : ∀ n ∈ l, s'.parts n = []
  same : ∀ n, n ∉ l → s'.parts n = s.parts n
  row : s.row ≠ none → s'.row ≠ none
  many : s'.many = s.many
  own : s'.own = s.own
  outer : s'.outer = s.outer
  mine : s'.mine = s.mine
  lasts : s'.lasts = s.lasts
  W : Wf s'
  G : Good s'
  z : RowZ s → RowZ s'
theorem loosed_same (s : Hs) (v : Vl) : (s.loosed v).own = s.own ∧ (s.loosed v).outer = s.outer ∧ (s.loosed v).mine = s.mine ∧ (s.loosed v).lasts = s.lasts := by
  cases v with
  | no d => exact ⟨rfl, rfl, rfl, rfl⟩
  | th n => rw [loosed_th]; split <;> exact ⟨rfl, rfl, rfl, rfl⟩
theorem emptied_same {n : Nat} : ∀ (l : List (Key × Vl)) (s : Hs), (s.emptied n l).own = s.own ∧ (s.emptied n l).outer = s.outer ∧ (s.emptied n l).mine = s.mine ∧ (s.emptied n l).lasts = s.lasts
  | [], s => ⟨rfl, rfl, rfl, rfl⟩
  | kv :: l, s => by
    obtain ⟨a, b, c, d⟩ := emptied_same l (({ s with parts := fset s.parts n l } : Hs).loosed kv.2)
    obtain ⟨a', b', c', d'⟩ := loosed_same ({ s with parts := fset s.parts n l } : Hs) kv.2
    exact ⟨a.trans a', b.trans b', c.trans c', d.trans d'⟩
theorem emptied_parts {n : Nat} : ∀ (l : List (Key × Vl)) (s : Hs), s.parts n = l → (s.emptied n l).parts n = [] ∧ ∀ i, i ≠ n → (s.emptied n l).parts i = s.parts i
  | [], s, h => ⟨h, fun _ _ => rfl⟩
  | kv :: l, s, h => by
    obtain ⟨a, b⟩ := emptied_parts l (({ s with parts := fset s.parts n l } : Hs).loosed kv.2) (by rw [loosed_parts]; exact fset_same)
    refine ⟨a, fun i hi => (b i hi).trans ?_⟩
    rw [loosed_parts]
    exact fset_ne hi
theorem empts_ok : ∀ {l : List Nat} {s : Hs}, Wf s → Good s → l.Nodup → (∀ n ∈ l, n ∈ s.rest) → Ems s (s.empts l) l
  | [], s, w, g, _, _ => ⟨rfl, fun n => by show n ∈ s.rest ↔ _; simp, fun _ => List.Sublist.refl _, fun _ h => (by cases h), fun _ _ => rfl, fun h => h, rfl, rfl, rfl, rfl, rfl, w, g, fun h => h⟩
  | n :: l, s, w, g, nd, h => by
    rw [List.nodup_cons] at nd
    have hn := h n (List.mem_cons_self ..)
    obtain ⟨g1, p1, r1, t1⟩ := g.emptied (n := n) w hn rfl
    have w1 := (Wf.emptied (n := n) w rfl).bare n
    obtain ⟨p2, p3⟩ := emptied_parts (n := n) _ s rfl
    obtain ⟨e1, e2, e3, e4⟩ := emptied_same (n := n) (s.parts n) s
    have K := empts_ok (l := l) w1 (g1.bare p1) nd.2 fun i hi => List.mem_filter.mpr ⟨by rw [r1]; exact h i (List.mem_cons_of_mem _ hi), by simpa using fun e : i = n => nd.1 (e ▸ hi)⟩
    have es : s.empts (n :: l) = ((s.emptied n (s.parts n)).bare n).empts l := rfl
    refine ⟨?_, fun i => ?_, fun i => ?_, fun i hi => ?_, fun i hi => ?_, fun hr => ?_, ?_, ?_, ?_, ?_, ?_, ?_, ?_, fun hz => ?_⟩
    · rw [es, K.there]; exact t1
    · rw [es, K.rest]
      show i ∈ (s.emptied n (s.parts n)).rest.filter (fun j => decide (j ≠ n)) ∧ _ ↔ _
      rw [r1, List.mem_filter, decide_eq_true_iff, List.mem_cons]
      exact ⟨fun ⟨⟨a, b⟩, c⟩ => ⟨a, fun z => z.elim b c⟩, fun ⟨a, b⟩ => ⟨⟨a, fun z => b (.inl z)⟩, fun z => b (.inr z)⟩⟩
    · rw [es]
      refine (K.shr i).trans ?_
      show ((s.emptied n (s.parts n)).parts i).Sublist _
      by_cases z : i = n
      · subst z; rw [p2]; exact List.nil_sublist _
      · rw [p3 i z]; exact List.Sublist.refl _
    · rw [es]
      rcases List.mem_cons.mp hi with rfl | hi
      · rw [K.same i nd.1]; exact p2
      · exact K.bare i hi
    · rw [es, K.same i fun z => hi (List.mem_cons_of_mem _ z)]
      exact p3 i fun z => hi (by rw [z]; exact List.mem_cons_self ..)
    · rw [es]
      exact K.row fun z => hr ((emptied_row _ _).mp z)
    · rw [es, K.many]; exact emptied_many _ _
    · rw [es, K.own]; exact e1
    · rw [es, K.outer]; exact e2
    · rw [es, K.mine]; exact e3
    · rw [es, K.lasts]; exact e4
    · rw [es]; exact K.W
    · rw [es]; exact K.G
    · rw [es]; exact K.z (RowZ.emptied hz g w hn rfl)
end
/-- what is there leads to what is there alone; what is gone has no parts; owns hold nothing -/
structure Cl (s : Hs) : Prop where
  cl : ∀ i ∈ s.there, ∀ kv ∈ s.parts i, ∀ j, kv.2 = .th j → j ∈ s.there
  gp : ∀ n, n ∉ s.there → n ∉ s.rest → s.parts n = []
  ow : ∀ n, 1 ≤ n → n ≤ s.many → NoTh (s.own n)
theorem le_sum_mem : ∀ {l : List Nat} {x : Nat}, x ∈ l → x ≤ l.sum
  | a :: l, x, h => by
    rw [List.sum_cons]
    rcases List.mem_cons.mp h with rfl | h
    · exact Nat.le_add_right _ _
    · have := le_sum_mem h; omega
/-- what is held by what is there is counted -/
theorem cnt_held {s : Hs} (g : Good s) {i j : Nat} {kv : Key × Vl} (hi : i ∈ s.there) (hk : kv ∈ s.parts i) (e : kv.2 = .th j) : s.cnt j ≠ 0 := by
  have h1 := g.eq j
  unfold cntF at h1
  have h2 : 0 < pcnt (s.parts i) j := by
    unfold pcnt
    rw [List.countP_pos_iff]
    exact ⟨kv, hk, by rw [e]; simp [Vl.is]⟩
  have h3 : pcnt (s.parts i) j ≤ psum s.parts s.there j := by
    unfold psum
    exact le_sum_mem (List.mem_map.mpr ⟨i, hi, rfl⟩)
  omega
theorem Cl.congr {s s' : Hs} (c : Cl s) (h1 : s'.there = s.there) (h2 : s'.parts = s.parts) (h3 : ∀ n, n ∈ s.rest → n ∈ s'.rest) (h4 : s'.own = s.own) (h5 : s'.many = s.many) : Cl s' :=
  ⟨by rw [h1, h2]; exact c.cl, fun n a b => by rw [h2]; exact c.gp n (by rw [← h1]; exact a) fun z => b (h3 n z), by rw [h4, h5]; exact c.ow⟩
theorem Cl.loosed {s : Hs} (c : Cl s) (v : Vl) : Cl (s.loosed v) :=
  c.congr (loosed_there s v) (loosed_parts s v) (fun n h => by rw [loosed_rest]; exact h) (loosed_same s v).1 (loosed_many s v)
/-- what has no holds is gone -/
theorem Cl.gone {s : Hs} {n : Nat} (c : Cl s) (g : Good s) (h : s.cnt n = 0) : Cl (s.gone n) := by
  refine ⟨fun i hi kv hk j e => ?_, fun i h1 h2 => ?_, c.ow⟩
  · have hi' : i ∈ s.there := (List.mem_filter.mp hi).1
    have hk : kv ∈ s.parts i := hk
    have hj := c.cl i hi' kv hk j e
    refine List.mem_filter.mpr ⟨hj, ?_⟩
    rw [decide_eq_true_iff]
    rintro rfl
    exact cnt_held g hi' hk e h
  · have h2 : i ∉ s.rest ++ [n] := h2
    rw [List.mem_append, List.mem_singleton] at h2
    refine c.gp i (fun z => h1 (List.mem_filter.mpr ⟨z, by simpa using fun e => h2 (.inr e)⟩)) fun z => h2 (.inl z)
theorem Cl.bared {s : Hs} {n : Nat} (c : Cl s) (hn : n ∉ s.there) : Cl ((s.emptied n (s.parts n)).bare n) := by
  obtain ⟨p1, p2⟩ := emptied_parts (n := n) _ s rfl
  obtain ⟨e1, e2, e3, e4⟩ := emptied_same (n := n) (s.parts n) s
  have et := emptied_there (n := n) (s.parts n) s
  refine ⟨fun i hi kv hk j e => ?_, fun i h1 h2 => ?_, fun i h1 h2 => ?_⟩
  · have hi : i ∈ (s.emptied n (s.parts n)).there := hi
    rw [et] at hi
    have hk : kv ∈ (s.emptied n (s.parts n)).parts i := hk
    show j ∈ (s.emptied n (s.parts n)).there
    rw [et]
    by_cases z : i = n
    · exact absurd (z ▸ hi) hn
    · rw [p2 i z] at hk; exact c.cl i hi kv hk j e
  · show (s.emptied n (s.parts n)).parts i = []
    by_cases z : i = n
    · subst z; exact p1
    · rw [p2 i z]
      refine c.gp i (fun y => h1 (by show i ∈ (s.emptied n (s.parts n)).there; rw [et]; exact y)) fun y => h2 ?_
      have er : ∀ (l : List (Key × Vl)) (s : Hs), (s.emptied n l).rest = s.rest := by
        intro l
        induction l with
        | nil => intro s; rfl
        | cons kv l ih =>
          intro s
          show ((({ s with parts := fset s.parts n l } : Hs).loosed kv.2).emptied n l).rest = _
          rw [ih, loosed_rest]
      exact List.mem_filter.mpr ⟨by rw [er]; exact y, by simpa using z⟩
  · have h2 : i ≤ (s.emptied n (s.parts n)).many := h2
    rw [emptied_many] at h2
    show NoTh ((s.emptied n (s.parts n)).own i)
    rw [e1]
    exact c.ow i h1 h2
/-- what is asked of lasts, too -/
structure AskCl (ask : AskR) : Prop where
  good : AskGood ask
  cl : ∀ {s n s'}, ask s n s' → Wf s → Good s → n ∈ s.there → Cl s → Cl s'
  rest : ∀ {s n s'}, ask s n s' → Wf s → Good s → n ∈ s.there → s'.rest = s.rest
  lasts : ∀ {s n s'}, ask s n s' → s'.lasts = s.lasts
  bal : ∀ {s n s'}, ask s n s' → ∀ i, s'.outer.count i + s.ends.count i = s.outer.count i + s'.ends.count i
theorem askNo_cl : AskCl askNo := ⟨askNo_good, fun h _ _ _ c => h ▸ c, fun h _ _ _ => h ▸ rfl, fun h => h ▸ rfl, fun h i => by cases h; rfl⟩
theorem emptied_rest {n : Nat} : ∀ (l : List (Key × Vl)) (s : Hs), (s.emptied n l).rest = s.rest
  | [], s => rfl
  | kv :: l, s => by
    show ((({ s with parts := fset s.parts n l } : Hs).loosed kv.2).emptied n l).rest = _
    rw [emptied_rest l, loosed_rest]
section
variable {ask : AskR} (K : AskCl ask) {s s' : Hs} {n : Nat}
include K
theorem Turn.cl (t : Turn ask s n s') (w : Wf s) (g : Good s) (h : ∀ l, s.row = some l → n ∉ l) (c : Cl s) : Cl s' ∧ s'.rest = s.rest ∧ s'.lasts = s.lasts := by
  cases t with
  | pass _ => exact ⟨c.congr rfl rfl (fun _ h => h) rfl rfl, rfl, rfl⟩
  | stay h1 h2 h3 =>
    rename_i s1
    have hn : n ∈ s.there := Classical.not_not.mp fun z => h1 (.inr z)
    have hb := w.tin n hn
    have g1 : Good ((s.unwait n).up n) := (Good.unwait g).up hb.2
    have w1 := (w.unwait h).up n
    have c1 : Cl ((s.unwait n).up n) := c.congr rfl rfl (fun _ h => h) rfl rfl
    have c2 := K.cl h2 w1 g1 hn c1
    exact ⟨c2.congr rfl rfl (fun _ h => h) rfl rfl, (K.rest h2 w1 g1 hn : s1.rest = _), (K.lasts h2 : s1.lasts = _)⟩
  | go h1 h2 h3 =>
    rename_i s1
    have hn : n ∈ s.there := Classical.not_not.mp fun z => h1 (.inr z)
    have hb := w.tin n hn
    have g1 : Good ((s.unwait n).up n) := (Good.unwait g).up hb.2
    have w1 := (w.unwait h).up n
    have c1 : Cl ((s.unwait n).up n) := c.congr rfl rfl (fun _ h => h) rfl rfl
    have c2 := K.cl h2 w1 g1 hn c1
    have g2 := (K.good.good h2 w1 g1 hn).down (K.good.out h2 (List.mem_append_right _ (List.mem_singleton.mpr rfl)))
    have c3 : Cl (s1.down n) := c2.congr rfl rfl (fun _ h => h) rfl rfl
    have c4 := c3.gone g2 h3
    have hng : n ∉ ((s1.down n).gone n).there := fun z => of_decide_eq_true (List.mem_filter.mp z).2 rfl
    have hrs : s1.rest = ((s.unwait n).up n).rest := K.rest h2 w1 g1 hn
    have hrs : s1.rest = s.rest := hrs
    have hnr : n ∉ s.rest := fun z => g.rt n z hn
    refine ⟨c4.bared hng, ?_, ?_⟩
    · show ((((s1.down n).gone n).emptied n (s1.parts n)).rest.filter fun i => decide (i ≠ n)) = s.rest
      rw [emptied_rest]
      show ((s1.rest ++ [n]).filter fun i => decide (i ≠ n)) = s.rest
      rw [hrs, List.filter_append, filter_no hnr]
      simp
    · show ((((s1.down n).gone n).emptied n (s1.parts n))).lasts = s.lasts
      rw [(emptied_same (n := n) (s1.parts n) ((s1.down n).gone n)).2.2.2]
      have hl : s1.lasts = ((s.unwait n).up n).lasts := K.lasts h2
      exact hl
theorem Work.cl {f : Nat} (t : Work ask f s s') (w : Wf s) (g : Good s) (c : Cl s) : Cl s' ∧ s'.rest = s.rest ∧ s'.lasts = s.lasts ∧ s'.row = none := by
  induction t with
  | done h => exact ⟨c.congr rfl rfl (fun _ h => h) rfl rfl, rfl, rfl, rfl⟩
  | step h1 h2 h3 ih =>
    rename_i f n r s s1 s2
    obtain ⟨w1, w2, _⟩ := w.rowTail h1
    have g1 : Good { s with row := some r } := ⟨g.cnt, g.rnd, g.rt, g.rin, g.oin⟩
    have hr : ∀ l, ({ s with row := some r } : Hs).row = some l → n ∉ l := fun l hl => by cases hl; exact w2
    obtain ⟨c1, r1, l1⟩ := h2.cl K w1 g1 hr (c.congr rfl rfl (fun _ h => h) rfl rfl)
    obtain ⟨c2, r2, l2, e⟩ := ih (h2.wf K.good.ok w1 hr).1 (h2.good K.good w1 g1 hr) c1
    exact ⟨c2, r2.trans r1, l2.trans l1, e⟩
theorem Loose.cl {v : Vl} (t : Loose ask s v s') (w : Wf s) (g : GoodP s v) (c : Cl s) : Cl s' ∧ s'.rest = s.rest ∧ s'.lasts = s.lasts := by
  have gl := g.loosed
  cases t with
  | no => exact ⟨c, rfl, rfl⟩
  | kept h => exact ⟨c.congr rfl rfl (fun _ h => h) rfl rfl, rfl, rfl⟩
  | wait h _ => exact ⟨c.congr rfl rfl (fun _ h => h) rfl rfl, rfl, rfl⟩
  | work h h1 h2 =>
    rename_i n f
    rw [loosed_th, if_pos h] at gl
    have w1 := (w.dec n).enq h
    obtain ⟨a, b, d, _⟩ := h2.cl K ⟨w1.nd, w1.tin, w1.len, w1.most, w1.key, w1.plen, w1.pv, w1.wnd, w1.win, fun l hl => by
      cases hl
      exact ⟨by simp, fun i hi => by rw [List.mem_singleton.mp hi]; exact List.mem_append_right _ (List.mem_singleton.mpr rfl)⟩, w1.pz, w1.az, w1.kok⟩ ⟨gl.cnt, gl.rnd, gl.rt, gl.rin, gl.oin⟩ (c.congr rfl rfl (fun _ h => h) rfl rfl)
    exact ⟨a, b, d⟩
theorem AskAll.keep {l : List Nat} (t : AskAll ask s l s') (w : Wf s) (g : Good s) (c : Cl s) : Wf s' ∧ Good s' ∧ Cl s' ∧ s'.rest = s.rest ∧ s'.lasts = s.lasts ∧ s'.row = s.row ∧ s.many ≤ s'.many ∧ ∀ i, s'.outer.count i + s.ends.count i = s.outer.count i + s'.ends.count i := by
  induction t with
  | nil => exact ⟨w, g, c, rfl, rfl, rfl, Nat.le_refl _, fun _ => rfl⟩
  | cons h1 h2 _ ih =>
    obtain ⟨a, b, d, e, f, i, j, k⟩ := ih (K.good.ok.wf h2 w h1) (K.good.good h2 w g h1) (K.cl h2 w g h1 c)
    exact ⟨a, b, d, e.trans (K.rest h2 w g h1), f.trans (K.lasts h2), i.trans (K.good.ok.row h2), Nat.le_trans (K.good.ok.many h2) j, fun i => by have := k i; have := K.bal h2 i; omega⟩
/-- behind a sweep, at rest -/
theorem Swept.keep {rs : List Vl} {lost : List Nat} (t : Swept ask rs s lost s') (w : Wf s) (g : Good s) (c : Cl s) (hr : s.rest = []) (h0 : s.row = none) (eb : ∀ i, s.ends.count i ≤ s.outer.count i) : Wf s' ∧ Good s' ∧ Cl s' ∧ s'.rest = [] ∧ s'.lasts = s.lasts ∧ s'.row = none ∧ s.many ≤ s'.many := by
  cases t with
  | busy _ => exact ⟨w, g, c, hr, rfl, h0, Nat.le_refl _⟩
  | mk l0 r0 L0 A L1 ht W1 =>
    rename_i s1 lost0 f
    obtain ⟨u1, u2, u3, u4, u5, u6, u7, u8, u9, u10⟩ := ups_rest lost0 s
    have hin : ∀ n ∈ lost0, n ∈ s.there := fun n hn => ((L0.mem n).mp hn).1
    have nd0 : lost0.Nodup := L0.srt.imp fun h e => by omega
    have nd1 : lost.Nodup := L1.srt.imp fun h e => by omega
    have gu : Good (s.ups lost0) := g.ups fun n hn => (w.tin n (hin n hn)).2
    have cu : Cl (s.ups lost0) := c.congr u1 u2 (fun n h => by rw [u3]; exact h) u6 u5
    obtain ⟨w1, g1, c1, e1, e2, e3, e4, e5⟩ := A.keep K w.ups gu cu
    obtain ⟨d1, d2, d3, d4, d5, d6, d7, d8, d9⟩ := downs_rest lost0 s1
    have wd := (w1.downs (l := lost0))
    have gd : Good (s1.downs lost0) := g1.downs nd0 fun n hn => List.count_pos_iff.mp (by
      have h1 := e5 n
      rw [u9, List.count_append, ups_ends] at h1
      have h2 := eb n
      have h3 := List.count_pos_iff.mpr hn
      omega)
    have cd : Cl (s1.downs lost0) := c1.congr d1 d2 (fun n h => by rw [d3]; exact h) d6 d5
    have hl1 : ∀ n ∈ lost, n ∈ lost0 := fun n hn => ((L1.mem n).mp hn).1
    have hrest1 : (s1.downs lost0).rest = [] := by rw [d3, e1, u3]; exact hr
    have Gn := gones_ok (l := lost) wd.rowed0 (gd.rowed _) nd1 fun n hn => by
      show n ∈ (s1.downs lost0).there
      rw [d1]; exact ht n (hl1 n hn)
    have cg : Cl (((s1.downs lost0).rowed (some [])).gones lost) := by
      refine ⟨fun i hi kv hk j e => ?_, fun i h1 h2 => ?_, by rw [Gn.own, Gn.many]; exact cd.ow⟩
      · obtain ⟨a, b⟩ := (Gn.there i).mp hi
        have a : i ∈ (s1.downs lost0).there := a
        rw [Gn.parts] at hk
        have hk : kv ∈ (s1.downs lost0).parts i := hk
        have hj := cd.cl i a kv hk j e
        refine (Gn.there j).mpr ⟨hj, fun z => ?_⟩
        have hz := (L1.mem j).mp z
        apply hz.2
        have hstep : Vl.th j ∈ ledP (s1.downs lost0) i := List.mem_map.mpr ⟨kv, hk, e⟩
        refine .step ?_ hstep
        by_cases y : i ∈ lost0
        · exact Classical.not_not.mp fun q => b ((L1.mem i).mpr ⟨y, q⟩)
        · exact .root (List.mem_append_right _ (List.mem_map.mpr ⟨i, List.mem_filter.mpr ⟨a, by simpa using y⟩, rfl⟩))
      · rw [Gn.rest, List.mem_append] at h2
        rw [Gn.parts]
        refine cd.gp i (fun z => h1 ((Gn.there i).mpr ⟨z, fun y => h2 (.inr y)⟩)) fun z => h2 (.inl z)
    have Em := empts_ok (l := lost) Gn.W Gn.G nd1 fun n hn => by rw [Gn.rest]; exact List.mem_append_right _ hn
    have ce : Cl ((((s1.downs lost0).rowed (some [])).gones lost).empts lost) := by
      refine ⟨fun i hi kv hk j e => ?_, fun i h1 h2 => ?_, by rw [Em.own, Em.many]; exact cg.ow⟩
      · rw [Em.there] at hi ⊢
        exact cg.cl i hi kv ((Em.shr i).mem hk) j e
      · by_cases z : i ∈ lost
        · exact Em.bare i z
        · rw [Em.same i z]
          exact cg.gp i (by rw [← Em.there]; exact h1) fun y => h2 ((Em.rest i).mpr ⟨y, z⟩)
    have hre : ((((s1.downs lost0).rowed (some [])).gones lost).empts lost).rest = [] := by
      refine List.eq_nil_iff_forall_not_mem.mpr fun n hn => ?_
      obtain ⟨a, b⟩ := (Em.rest n).mp hn
      rw [Gn.rest] at a
      rcases List.mem_append.mp a with a | a
      · have a : n ∈ (s1.downs lost0).rest := a
        rw [hrest1] at a; cases a
      · exact b a
    obtain ⟨c2, r2, l2, e⟩ := W1.cl K Em.W Em.G ce
    refine ⟨(W1.wf K.good.ok Em.W).1, W1.good K.good Em.W Em.G, c2, r2.trans hre, ?_, e, ?_⟩
    · rw [l2, Em.lasts, Gn.lasts]
      show (s1.downs lost0).lasts = _
      rw [d7, e2, u7]
    · have := (W1.wf K.good.ok Em.W).2
      rw [Em.many, Gn.many] at this
      have h5 : (s1.downs lost0).many ≤ s'.many := this
      rw [d5] at h5
      rw [u5] at e4
      omega
end
/-! without an ender -/
open Classical in
theorem lost_ex (s : Hs) (base : List Nat) (rs : List Vl) (nd : base.Nodup) : ∃ lost, Lost s (· ∈ base) rs lost := by
  refine ⟨(base.filter fun n => decide (¬ Rch (ledP s) rs n)).mergeSort, ?_, fun n => ?_⟩
  · have h1 := List.pairwise_mergeSort (le := fun a b : Nat => decide (a ≤ b)) (fun a b c h1 h2 => by simp at *; omega) (fun a b => by simp; omega) (base.filter fun n => decide (¬ Rch (ledP s) rs n))
    have h2 : ((base.filter fun n => decide (¬ Rch (ledP s) rs n)).mergeSort fun a b => decide (a ≤ b)).Nodup := (List.mergeSort_perm _ _).nodup_iff.mpr (nd.sublist List.filter_sublist)
    exact (h1.and h2).imp fun ⟨a, b⟩ => by simp at a; omega
  · rw [(List.mergeSort_perm _ _).mem_iff, List.mem_filter, decide_eq_true_iff]
theorem downs_outer : ∀ {l : List Nat} {s : Hs}, (∀ i, l.count i ≤ s.outer.count i) → (∀ i, (s.downs l).outer.count i + l.count i = s.outer.count i) ∧ (s.downs l).outer.length + l.length = s.outer.length
  | [], s, _ => ⟨fun _ => rfl, rfl⟩
  | n :: l, s, h => by
    have hn : n ∈ s.outer := List.count_pos_iff.mp (by have := h n; rw [List.count_cons_self] at this; omega)
    have hs : (s.downs (n :: l)) = (s.down n).downs l := rfl
    have hp : ∀ i, (s.down n).outer.count i + (if i = n then 1 else 0) = s.outer.count i := fun i => by
      show (s.outer.erase n).count i + _ = _
      by_cases z : i = n
      · subst z
        have := List.count_pos_iff.mpr hn
        rw [List.count_erase_self, if_pos rfl]
        omega
      · rw [List.count_erase_of_ne z, if_neg z]; rfl
    have hc : ∀ i, (n :: l).count i = l.count i + (if i = n then 1 else 0) := fun i => by
      rw [List.count_cons]
      congr 1
      by_cases z : i = n
      · subst z; simp
      · rw [if_neg z, if_neg (by simpa using Ne.symm z)]
    obtain ⟨a, b⟩ := downs_outer (l := l) (s := s.down n) fun i => by have := h i; have := hp i; have := hc i; omega
    refine ⟨fun i => ?_, ?_⟩
    · have := a i; have := hp i; have := hc i
      rw [hs]
      omega
    · rw [hs]
      have : (s.down n).outer.length + 1 = s.outer.length := by
        show (s.outer.erase n).length + 1 = _
        have := List.length_pos_of_mem hn
        rw [List.length_erase_of_mem hn]
        omega
      rw [List.length_cons]
      omega
theorem gones_left : ∀ (l : List Nat) (s : Hs), (s.gones l).asked = s.asked ∧ (s.gones l).ends = s.ends ∧ (s.gones l).form = s.form
  | [], _ => ⟨rfl, rfl, rfl⟩
  | n :: l, s => gones_left l (s.gone n)
theorem downs_ends : ∀ (l : List Nat) (s : Hs), (s.downs l).ends = s.ends
  | [], _ => rfl
  | n :: l, s => downs_ends l (s.down n)
theorem empts_ends : ∀ (l : List Nat) (s : Hs), (s.empts l).ends = s.ends
  | [], _ => rfl
  | n :: l, s => by
    show (((s.emptied n (s.parts n)).bare n).empts l).ends = _
    rw [empts_ends l]
    have : ∀ (l : List (Key × Vl)) (s : Hs), (s.emptied n l).ends = s.ends := by
      intro l
      induction l with
      | nil => intro s; rfl
      | cons kv l ih =>
        intro s
        show ((({ s with parts := fset s.parts n l } : Hs).loosed kv.2).emptied n l).ends = _
        rw [ih]
        cases kv.2 with
        | no d => rfl
        | th j => rw [loosed_th]; split <;> rfl
    exact this _ _
/-- what a sweep without an ender leaves as it is -/
structure Sk (s s' : Hs) : Prop where
  ends : s'.ends = s.ends
  mine : s'.mine = s.mine
  out : ∀ j, s'.outer.count j = s.outer.count j
  len : s'.outer.length = s.outer.length
  many : s'.many = s.many
  shr : ∀ n, (s'.parts n).Sublist (s.parts n)
  there : ∀ n, n ∈ s'.there → n ∈ s.there
theorem swept_no {rs : List Vl} {lost : List Nat} {s s' : Hs} (t : Swept askNo rs s lost s') (w : Wf s) (g : Good s) : Sk s s' := by
  cases t with
  | busy _ => exact ⟨rfl, rfl, fun _ => rfl, rfl, rfl, fun _ => List.Sublist.refl _, fun _ h => h⟩
  | mk l0 r0 L0 A L1 ht W1 =>
    rename_i s1 lost0 f
    have e1 : s1 = s.ups lost0 := by
      have : ∀ {s s1 : Hs} {l : List Nat}, AskAll askNo s l s1 → s1 = s := fun a => by
        induction a with
        | nil => rfl
        | cons _ h _ ih => rw [ih]; exact h
      exact this A
    subst e1
    obtain ⟨u1, u2, u3, u4, u5, u6, u7, u8, u9, u10⟩ := ups_rest lost0 s
    obtain ⟨d1, d2, d3, d4, d5, d6, d7, d8, d9⟩ := downs_rest lost0 (s.ups lost0)
    have nd1 : lost.Nodup := L1.srt.imp fun h e => by omega
    have hin : ∀ n ∈ lost0, n ∈ s.there := fun n hn => ((L0.mem n).mp hn).1
    have nd0 : lost0.Nodup := L0.srt.imp fun h e => by omega
    have gu : Good (s.ups lost0) := g.ups fun n hn => (w.tin n (hin n hn)).2
    have gd : Good ((s.ups lost0).downs lost0) := gu.downs nd0 fun n hn => by rw [u9]; exact List.mem_append_right _ hn
    have Gn := gones_ok (l := lost) ((w.ups (l := lost0)).downs (l := lost0)).rowed0 (gd.rowed (some [])) nd1 fun n hn => by
      show n ∈ ((s.ups lost0).downs lost0).there
      rw [d1]; exact ht n ((L1.mem n).mp hn).1
    have Em := empts_ok (l := lost) Gn.W Gn.G nd1 fun n hn => by rw [Gn.rest]; exact List.mem_append_right _ hn
    obtain ⟨k, _⟩ := work_no W1 Em.W Em.G
    obtain ⟨o1, o2⟩ := downs_outer (l := lost0) (s := s.ups lost0) fun i => by rw [u9, List.count_append]; omega
    have eo : ((((((s.ups lost0).downs lost0).rowed (some [])).gones lost).empts lost)).outer = ((s.ups lost0).downs lost0).outer := by
      rw [Em.outer, Gn.outer]; rfl
    refine ⟨?_, ?_, fun j => ?_, ?_, ?_, fun n => ?_, fun n hn => ?_⟩
    · rw [k.ends, empts_ends, (gones_left lost _).2.1]
      show ((s.ups lost0).downs lost0).ends = _
      rw [downs_ends, ups_ends]
    · rw [k.mine, Em.mine, Gn.mine]
      show ((s.ups lost0).downs lost0).mine = _
      rw [d8, u8]
    · rw [k.out, eo]
      have := o1 j
      rw [u9, List.count_append] at this
      omega
    · rw [k.len, eo]
      rw [u9, List.length_append] at o2
      omega
    · rw [k.many, Em.many, Gn.many]
      show ((s.ups lost0).downs lost0).many = _
      rw [d5, u5]
    · have h1 := (k.shr n).trans (Em.shr n)
      rw [Gn.parts] at h1
      have h1 : (s'.parts n).Sublist (((s.ups lost0).downs lost0).parts n) := h1
      rw [d2, u2] at h1
      exact h1
    · have h1 := k.there n hn
      rw [Em.there] at h1
      have h1 : n ∈ ((s.ups lost0).downs lost0).there := ((Gn.there n).mp h1).1
      rw [d1, u1] at h1
      exact h1
theorem swept_ex {rs : List Vl} {s : Hs} (w : Wf s) (g : Good s) (hr : s.row = none) (hl : s.lasts = 0) : ∃ lost s', Swept askNo rs s lost s' := by
  obtain ⟨lost0, L0⟩ := lost_ex s s.there rs w.nd
  obtain ⟨u1, u2, u3, u4, u5, u6, u7, u8, u9, u10⟩ := ups_rest lost0 s
  obtain ⟨d1, d2, d3, d4, d5, d6, d7, d8, d9⟩ := downs_rest lost0 (s.ups lost0)
  have nd0 : lost0.Nodup := L0.srt.imp fun h e => by omega
  have hin : ∀ n ∈ lost0, n ∈ s.there := fun n hn => ((L0.mem n).mp hn).1
  obtain ⟨lost, L1⟩ := lost_ex ((s.ups lost0).downs lost0) lost0 (rs ++ (others ((s.ups lost0).downs lost0) lost0).map Vl.th) nd0
  have nd1 : lost.Nodup := L1.srt.imp fun h e => by omega
  have gu : Good (s.ups lost0) := g.ups fun n hn => (w.tin n (hin n hn)).2
  have gd : Good ((s.ups lost0).downs lost0) := gu.downs nd0 fun n hn => by rw [u9]; exact List.mem_append_right _ hn
  have ht : ∀ n ∈ lost0, n ∈ (s.ups lost0).there := fun n hn => by rw [u1]; exact hin n hn
  have Gn := gones_ok (l := lost) ((w.ups (l := lost0)).downs (l := lost0)).rowed0 (gd.rowed (some [])) nd1 fun n hn => by
    show n ∈ ((s.ups lost0).downs lost0).there
    rw [d1]; exact ht n ((L1.mem n).mp hn).1
  have Em := empts_ok (l := lost) Gn.W Gn.G nd1 fun n hn => by rw [Gn.rest]; exact List.mem_append_right _ hn
  have z0 : RowZ ((((s.ups lost0).downs lost0).rowed (some [])).gones lost) := fun l hl n hn => by
    rw [Gn.row] at hl
    cases hl
    cases hn
  have hrow := Em.row (by rw [Gn.row]; exact nofun)
  obtain ⟨l, el⟩ := Option.ne_none_iff_exists'.mp hrow
  obtain ⟨f, s', W1⟩ := work_ex _ _ l (Nat.le_refl _) el Em.W Em.G (Em.z z0)
  have A : AskAll askNo (s.ups lost0) lost0 (s.ups lost0) := by
    have : ∀ {l : List Nat} {s : Hs}, (∀ n ∈ l, n ∈ s.there) → AskAll askNo s l s := by
      intro l
      induction l with
      | nil => intro s _; exact .nil
      | cons n l ih => intro s h; exact .cons (h n (List.mem_cons_self ..)) rfl (ih fun i hi => h i (List.mem_cons_of_mem _ hi))
    exact this ht
  exact ⟨lost, s', .mk hl hr L0 A L1 ht W1⟩
end HM

set_option Elab.async false
set_option linter.all false
set_option maxRecDepth 100000
namespace K
open PySem L2 Evl EX DL HM
abbrev s_Hall_at_work : Stmt := inClass (top 3) 8
abbrev N_Hall_at_work : List Str := ["self"]
theorem sc_Hall_at_work : FnScope N_Hall_at_work ["self"] (defScope s_Hall_at_work) := ⟨rfl, rfl, rfl, by decide +kernel, rfl, by decide +kernel, by decide +kernel⟩
abbrev s_Hall_let_all_go : Stmt := inClass (top 3) 15
abbrev N_Hall_let_all_go : List Str := ["self", "things", "thing"]
theorem sc_Hall_let_all_go : FnScope N_Hall_let_all_go ["self", "things"] (defScope s_Hall_let_all_go) := ⟨rfl, rfl, rfl, by decide +kernel, rfl, by decide +kernel, by decide +kernel⟩
abbrev s_without : Stmt := top 7
abbrev N_without : List Str := ["hall", "things", "roots", "near", "number", "thing"]
theorem sc_without : FnScope N_without ["hall", "things", "roots"] (defScope s_without) := ⟨rfl, rfl, rfl, by decide +kernel, rfl, by decide +kernel, by decide +kernel⟩
abbrev s_others_there : Stmt := top 8
abbrev N_others_there : List Str := ["hall", "things", "numbers", "thing", "number"]
theorem sc_others_there : FnScope N_others_there ["hall", "things"] (defScope s_others_there) := ⟨rfl, rfl, rfl, by decide +kernel, rfl, by decide +kernel, by decide +kernel⟩
abbrev s_swept : Stmt := top 9
abbrev N_swept : List Str := ["hall", "around", "lost", "thing", "number"]
theorem sc_swept : FnScope N_swept ["hall", "around"] (defScope s_swept) := ⟨rfl, rfl, rfl, by decide +kernel, rfl, by decide +kernel, by decide +kernel⟩
theorem gval_some {β : Type} {l : List (Key × β)} {k : Key} : (gval l k).isSome = true ↔ k ∈ l.map (·.1) := by
  unfold gval
  rw [Option.isSome_map, List.find?_isSome, List.mem_map]
  exact ⟨fun ⟨x, h1, h2⟩ => ⟨x, h1, of_decide_eq_true h2⟩, fun ⟨x, h1, h2⟩ => ⟨x, h1, decide_eq_true h2⟩⟩
theorem gput_some {β : Type} {l : List (Key × β)} {k j : Key} {v : β} : (gval (gput l k v) j).isSome = true ↔ (gval l j).isSome = true ∨ j = k := by
  rw [gval_some, gval_some, gput_keys]
  split
  · rename_i h
    exact ⟨.inl, fun z => z.elim id fun e => e ▸ h⟩
  · simp
theorem gput_len {β : Type} {l : List (Key × β)} {k : Key} {v : β} : (gput l k v).length ≤ l.length + 1 := by
  have := congrArg List.length (gput_keys l k v)
  rw [List.length_map] at this
  rw [this]
  split
  · rw [List.length_map]; omega
  · rw [List.length_append, List.length_map]; exact Nat.le_refl _
theorem sorted_len {m : Nat} : ∀ {l : List Int} , l.Pairwise (· < ·) → (∀ j ∈ l, 1 ≤ j ∧ j ≤ m) → l.length ≤ m := by
  have key : ∀ (l : List Int) (lo : Int), lo ≤ m → l.Pairwise (· < ·) → (∀ j ∈ l, lo < j ∧ j ≤ m) → lo + l.length ≤ m := by
    intro l
    induction l with
    | nil => intro lo h _ _; simpa using h
    | cons a l ih =>
      intro lo h hp hb
      rw [List.pairwise_cons] at hp
      have h1 := hb a (List.mem_cons_self ..)
      have := ih a h1.2 hp.2 fun j hj => ⟨hp.1 j hj, (hb j (List.mem_cons_of_mem _ hj)).2⟩
      rw [List.length_cons]
      omega
  intro l hp hb
  have := key l 0 (by omega) hp fun j hj => ⟨by have := (hb j hj).1; omega, (hb j hj).2⟩
  omega
theorem rch_bound {s : Hs} (w : Wf s) {rs : List Vl} (hr : ∀ v ∈ rs, VOk s.many v) {n : Nat} (h : Rch (ledP s) rs n) : 1 ≤ n ∧ n ≤ s.many := by
  induction h with
  | root h => exact hr _ h
  | step _ h ih =>
    obtain ⟨kv, hk, e⟩ := List.mem_map.mp h
    have := w.pv _ kv hk
    rw [e] at this
    exact this
/-- no own holds anything -/
def hv0 : Nat → Option (List Vl) := fun _ => none
theorem ledV0 (s : Hs) : ledV s hv0 = ledP s := by
  funext n
  unfold ledV ledP hv0
  rw [Option.getD_none, List.append_nil]
def refs (H : HA) (l : List Nat) : List D := l.map fun n => .ref (H.a (.t n))
section
variable {P : Program} {w : World} {K : PySem.W.Frag} {mg : Str → Option Value} {base : Heap} {CT CH CD : Addr} {en : D}
local macro_rules | `(tactic| walk_at "dl") => `(tactic| try simp only [↓x_lcN, ↓x_lcSN, ↓x_catM, ↓x_neV, ↓x_sortSet, ↓x_sortDLN, ↓x_lrg, ↓x_neg, ↓x_lcS, ↓x_lockE, ↓x_eqA, ↓x_dictD, ↓x_disp, ↓x_pNil, ↓x_pCons, ↓x_forS, ↓x_diSL, ↓x_diKeys, ↓x_lock, ↓x_dictP, ↓x_fld, ↓x_fldS, ↓x_fldA, ↓x_meth, ↓x_make, ↓x_dget, ↓x_din, ↓x_dget1, ↓x_dget2, ↓x_dpop, ↓x_dput, ↓x_listD, ↓x_sortDI, ↓x_lenD, ↓x_isiC, x_icS, x_icI, x_icB, x_icN, x_ioS, x_ioI, x_ioB, x_ioN, ↓x_gSub, ↓x_sortDL, ↓x_eqO, ↓x_ninA, x_catN, x_isBB, x_isBN, x_isBI, x_isBS, x_isBR, ↓x_seq, ↓x_nx, ↓x_pass, ↓x_brk, ↓x_cnt, ↓x_drop, ↓x_ret, ↓x_retN, ↓x_ifS, ↓x_set, ↓x_asg, ↓x_gN, ↓x_gT, ↓x_gsC, ↓x_gsN, ↓x_var, x_rdv, ↓x_c, ↓x_op, ↓x_test, x_tst, ↓x_and, ↓x_or, ↓x_not, ↓x_andV, ↓x_orV, ↓x_notV, x_tstV, ↓x_ifE, x_true, x_false, ↓x_nil, ↓x_cons, ↓x_tup, ↓x_lst, ↓x_new, ↓x_newD, ↓x_call, ↓x_cb, x_oI, x_oIc, x_oS, x_addS, x_isN, x_notN, x_eqI, x_eqS, x_eqIS, x_eqSI, x_eqNS, x_neI, x_neS, x_neB, x_eqB, x_few, x_need, ↓x_ix, x_lenS, x_ixL0, x_ixT0, x_ixT1, x_ixT2, x_ixT3, x_ixT4, x_lenL, x_lenT, x_lenC, x_listL, x_listT, x_tupL, x_tupT, x_strI, x_strS, x_int1, x_intB, x_I1, x_I2, x_cat, x_catT, ↓x_split, ↓x_for, ↓x_cut, ↓x_lc, ↓x_whl, ↓x_diL, ↓x_diT, ↓x_diS, x_itL, x_itC, x_itT, x_itS, ↓x_diR1, ↓x_diR2, ↓x_diE, x_enmL, x_enmC, ↓x_gcN, ↓x_gcT, ↓x_yes, ↓x_ml, ↓x_ms, x_strq, x_ss, x_ssc, x_ssi, ↓x_join, ↓x_aug, x_st2I, ↓x_sl, ↓x_noP, ↓x_part, x_intq, x_slL, x_slC, x_slS, ↓x_in, x_inT, x_inL, x_ninT, x_ninL, x_inN, x_inSS, x_inSI, x_inIS, x_inII, ↓x_sg, x_sgS, x_nsgS, ↓x_eqD, ↓x_inDD, x_mulS, ↓x_isi, x_isiS, x_isiI, x_isiB, x_isiN, x_isiL, x_isiT, ↓x_isTT, x_itI, x_itStr, x_itN, x_itB, x_itLst, x_itTup, ↓x_any, ↓x_all, ↓x_sum, ↓x_srtI, ↓x_srtS, ↓x_intS, ↓x_lenRf, ↓x_tupRf, ↓x_frz', x_flS, x_flI, x_flN, x_flB, x_cs_bool, x_isB_NoneType_bool, x_isB_bool_bool, x_isB_int_bool, x_isB_str_bool, x_isB_list_bool, x_isB_tuple_bool, x_isB_dict_bool, x_cs_int, x_isB_NoneType_int, x_isB_bool_int, x_isB_int_int, x_isB_str_int, x_isB_list_int, x_isB_tuple_int, x_isB_dict_int, x_cs_str, x_isB_NoneType_str, x_isB_bool_str, x_isB_int_str, x_isB_str_str, x_isB_list_str, x_isB_tuple_str, x_isB_dict_str, x_cs_list, x_isB_NoneType_list, x_isB_bool_list, x_isB_int_list, x_isB_str_list, x_isB_list_list, x_isB_tuple_list, x_isB_dict_list, x_cs_tuple, x_isB_NoneType_tuple, x_isB_bool_tuple, x_isB_int_tuple, x_isB_str_tuple, x_isB_list_tuple, x_isB_tuple_tuple, x_isB_dict_tuple, x_cs_dict, x_isB_NoneType_dict, x_isB_bool_dict, x_isB_int_dict, x_isB_str_dict, x_isB_list_dict, x_isB_tuple_dict, x_isB_dict_dict, List.all_cons, List.all_nil, Bool.and_self, Bool.or_false, Bool.or_true, Bool.false_or, Bool.true_or, wipeD, setD, DL.isNon, List.set_cons_zero, List.set_cons_succ, List.getElem?_cons_zero, List.getElem?_cons_succ, List.length_cons, List.length_nil, Nat.zero_add, List.cons_append, List.nil_append, decide_true, decide_false, Bool.not_true, Bool.not_false, true_and, and_true, startD, List.map_cons, List.map_nil, Nat.reduceSub, Nat.reduceLeDiff, Nat.zero_le, Int.reduceLT, Int.reduceLE, and_self, Nat.reduceAdd, List.replicate])
def dAtWork (CT CH : Addr) (en : D) : SpD := fun ds S k _ => ∃ (H : HA) (s : Hs), ds = [.ref (H.a .hall)] ∧ HRep CT CH en H s S ∧ k (.bl (decide (0 < s.lasts) || s.row.isSome)) S
theorem ok_at_work {fa : Addr} {fd : FuncData} (F : Fun K "at_work" "Hall.at_work" s_Hall_at_work fa fd) (T : Txt K mg CT CH) : FnOk P w K mg base CX0 1 fa fd ["self"] (lSp K (dAtWork CT CH en)) := by
  refine dok F sc_Hall_at_work (fun ds S q qx ⟨H, s, h, _⟩ => by rw [h]; rfl) ⟨_, fun cdv A outer s H E hr => dss_one (ds_ret (de_or (de_cmp op_gt si_gt (de_fld T.Hall_ (by decide +kernel) (de_var 0)) (de_int) (nomark _)) (de_one (de_cmp op_notN si_notN (de_fld T.Hall_ (by decide +kernel) (de_var 0)) (de_non) (nomark _))))), fun ds S q qx ⟨H, s, hd, R, h⟩ => ?_⟩
  subst hd
  have e := hrep_hall R
  walk_at "dl"
  refine fldOf e ha_lasts ?_
  walk_at "dl"
  have e1 : decide (0 < (s.lasts : Int)) = decide (0 < s.lasts) := decide_eq_decide.mpr (by omega)
  rw [e1]
  refine br (fun hb => ?_) (fun hb => ?_)
  · rw [hb] at h
    exact h
  · rw [hb] at h
    walk_at "dl"
    refine fldOf e ha_row ?_
    cases er : s.row with
    | none => rw [er] at h; simp only [rowD]; walk_at "dl"; exact h
    | some l => rw [er] at h; simp only [rowD]; walk_at "dl"; exact h
/-- which of some things are not reached -/
def dWithout (CT CH : Addr) (en : D) : SpD := fun ds S k _ => ∃ (H : HA) (s : Hs) (l : List Nat) (roots : List Vl), ds = [.ref (H.a .hall), .list (refs H l), .list (roots.map (vD H))] ∧ HRep CT CH en H s S ∧ Wf s ∧ (∀ n, 1 ≤ n → n ≤ s.many → NoTh (s.own n)) ∧ (∀ n ∈ l, 1 ≤ n ∧ n ≤ s.many) ∧ l.length ≤ 5000 ∧
  (∀ v ∈ roots, VOk s.many v) ∧ roots.length + msum (fun n => (ledP s n).length + 1) s.many ≤ 90000 ∧ ∀ (p : Nat → Bool) S', Kpt S S' → (∀ n, p n = true ↔ ¬ Rch (ledP s) roots n) → k (.list (refs H (l.filter p))) S'
theorem ok_without {fa : Addr} {fd : FuncData} (F : Fun K "without" "without" s_without fa fd) (T : TxW K mg CT CH CD) (G_reached : DefD P w K mg base 3 "reached" ["hall", "roots"] (dReached CT CH CD en)) : FnOk P w K mg base CX0 4 fa fd ["hall", "things", "roots"] (lSp K (dWithout CT CH en)) := by
  refine dok F sc_without (fun ds S q qx ⟨H, s, l, roots, h, _⟩ => by rw [h]; rfl) ⟨_, fun cdv A outer s H E hr => dss_cons (ds_set (i := 3) sc_without.nd rfl (Or.inr rfl) (de_newD))
      (dss_cons (ds_forS PassesOwn.never rfl (di_stl (K := K) (de_call G_reached (hr.mono (by decide)) (by rfl) (da_cons (de_var 0) (da_cons (de_var 2) da_nil)))) (dg_name (i := 4) sc_without.nd rfl (Or.inl rfl))
        (dss_one (ds_dput (hu_of hr) (de_var 3) (de_var 4) (de_bl))))
      (dss_one (ds_ret (de_lc (own := [("thing", 5)]) (gc_name (j := 5) (by decide)) rfl sc_without.nd (di_list (K := K) (de_var 1)) (blkOk_by (N := N_without) (sc := defScope s_without) (by decide +kernel)) (fun _ _ _ _ _ => pg_name (i := 5) sc_without.nd rfl (Or.inl rfl)) (fun _ _ _ _ _ => dts_one (dt_dinN (hu_of hr) (de_fld T.Thing_ (by decide +kernel) (de_var 5)) (de_var 3))) (fun _ _ _ _ _ => de_var 5))))), fun ds S q qx ⟨H, s, l, roots, hd, R, W, ho, hlb, hll, hr, hsz, h⟩ => ?_⟩
  subst hd
  walk_at "dl"
  refine freshOf fun pn hpn => ?_
  have kp0 : Kpt S (put S pn (.dct [])) := Kpt.refl.put hpn _
  walk_at "dl"
  refine ⟨H, s, hv0, roots, rfl, (Kpt.tr R kp0).rep, W, fun n h1 h2 => ho n h1 h2, hr, fun _ _ e => (by cases e), by rw [ledV0]; exact hsz, fun ys p S1 kp1 hp hys hrl => ?_⟩
  walk_at "dl"
  have en1 := (kp1.at (put_same (S := S) (a := pn) (o := .dct [])))
  have nnp : pn ≠ p := sto_ne put_same hp
  have hp0 : S p = none := by rw [put_ne (Ne.symm nnp)] at hp; exact hp
  have kp01 : Kpt S S1 := kp0.trans kp1
  have hyl : ys.length ≤ s.many := sorted_len hrl.1 fun j hj => by
    obtain ⟨n, rfl, hn⟩ := (hrl.2 j).mp hj
    rw [ledV0] at hn
    have := rch_bound W hr hn
    omega
  have hmost := W.most
  refine slOf hys ?_
  walk_at "dl"
  refine forSOf (fun i δ S' => ∃ z, δ = [some (.ref (H.a .hall)), some (.list (refs H l)), some (.list (roots.map (vD H))), some (.ref pn), z, none] ∧ Kpt S S' ∧ ∃ kvs : List (Key × D), S' pn = some (.dct kvs) ∧ kvs.length ≤ i ∧ ∀ j : Int, (gval kvs (.inl j)).isSome = true ↔ j ∈ ys.take i) ⟨_, rfl, kp01, [], en1, Nat.le_refl _, fun j => by simp [gval]⟩ hys ?_ ?_
  · rintro i d δ S2 hi hys2 ⟨z, rfl, kp2, kvs, hk, hkl, hkm⟩
    rw [List.getElem?_map] at hi
    obtain ⟨j, hj, rfl⟩ := Option.map_eq_some_iff.mp hi
    have hil := (List.getElem?_eq_some_iff.mp hj).1
    walk_at "dl"
    refine dputOf hk rfl (by omega) ?_
    refine ⟨by rw [put_ne (Ne.symm nnp)]; exact hys2, _, rfl, kp2.put hpn _, _, put_same, Nat.le_trans gput_len (by omega), fun j' => ?_⟩
    rw [gput_some, hkm, List.take_add_one, hj, List.mem_append]
    simp
  · rintro δ S2 hys2 ⟨z, rfl, kp2, kvs, hk, hkl, hkm⟩
    rw [List.length_map, List.take_length] at hkm
    walk_at "dl"
    have hp : ∀ n : Nat, (!(gval kvs (.inl (n : Int))).isSome) = true ↔ ¬ Rch (ledP s) roots n := fun n => by
      rw [Bool.not_eq_true', ← Bool.not_eq_true, hkm, hrl.2, ledV0]
      refine not_congr ⟨fun ⟨m, e, h⟩ => ?_, fun h => ⟨n, rfl, h⟩⟩
      have e2 : n = m := by omega
      rw [e2]
      exact h
    refine lcOf (fun i acc => acc = refs H ((l.take i).filter fun n : Nat => !(gval kvs (.inl (n : Int))).isSome)) (by unfold refs; rw [List.length_map]; omega) rfl ?_ ?_
    · rintro pl hpl i d acc hi rfl
      unfold refs at hi
      rw [List.getElem?_map] at hi
      obtain ⟨n, hn, rfl⟩ := Option.map_eq_some_iff.mp hi
      have hb := hlb n (List.mem_of_getElem? hn)
      have kp3 := kp2.put (p := pl) (by cases e : S pl with | none => rfl | some o => rw [kp2 pl (nn e), e] at hpl; cases hpl) (.lst (refs H ((l.take i).filter fun n : Nat => !(gval kvs (.inl (n : Int))).isSome)))
      walk_at "dl"
      refine fldOf (hrep_t (Kpt.tr R kp3).rep hb.1 hb.2) th_number ?_
      walk_at "dl"
      refine dninOf ((put_ne (sto_ne hk hpl)).trans hk) rfl ?_
      walk_at "dl"
      have etk : (l.take (i + 1)).filter (fun n : Nat => !(gval kvs (.inl (n : Int))).isSome) = (l.take i).filter (fun n : Nat => !(gval kvs (.inl (n : Int))).isSome) ++ if (!(gval kvs (.inl (n : Int))).isSome) = true then [n] else [] := by
        rw [List.take_add_one, hn, List.filter_append]
        congr 1
        show List.filter _ [n] = _
        rw [List.filter_cons]
        rfl
      refine br (fun hb => ?_) (fun hb => ?_)
      · walk_at "dl"
        refine LcO.of hpl ?_
        rw [etk, if_pos hb]
        unfold refs
        rw [List.map_append]
        rfl
      · refine LcO.of hpl ?_
        rw [etk, if_neg (by rw [hb]; exact nofun), List.append_nil]
    · rintro acc rfl
      unfold refs
      rw [List.length_map, List.take_length]
      exact h _ S2 kp2 hp
end
end K

set_option Elab.async false
set_option linter.all false
set_option maxRecDepth 100000
namespace HM
open PySem L2 DL
theorem ups_snoc : ∀ (l : List Nat) (s : Hs) (n : Nat), s.ups (l ++ [n]) = (s.ups l).up n
  | [], _, _ => rfl
  | a :: l, s, n => ups_snoc l (s.up a) n
theorem downs_snoc : ∀ (l : List Nat) (s : Hs) (n : Nat), s.downs (l ++ [n]) = (s.downs l).down n
  | [], _, _ => rfl
  | a :: l, s, n => downs_snoc l (s.down a) n
theorem gones_snoc : ∀ (l : List Nat) (s : Hs) (n : Nat), s.gones (l ++ [n]) = (s.gones l).gone n
  | [], _, _ => rfl
  | a :: l, s, n => gones_snoc l (s.gone a) n
theorem empts_snoc : ∀ (l : List Nat) (s : Hs) (n : Nat), s.empts (l ++ [n]) = ((s.empts l).emptied n ((s.empts l).parts n)).bare n
  | [], _, _ => rfl
  | a :: l, s, n => empts_snoc l ((s.emptied a (s.parts a)).bare a) n
/-- a rising list of numbers -/
theorem perm_nats {ys : List Int} {l : List Nat} (h : ys.Perm (l.map fun n : Nat => (n : Int))) (hs : ys.Pairwise (· ≤ ·)) (nd : l.Nodup) : ∃ ns : List Nat, ys = ns.map (fun n : Nat => (n : Int)) ∧ ns.Perm l ∧ ns.Pairwise (· < ·) := by
  have e : ys = (ys.map Int.toNat).map (fun n : Nat => (n : Int)) := by
    rw [List.map_map]
    refine (List.map_id _).symm.trans (List.map_congr_left fun j hj => ?_)
    obtain ⟨n, _, rfl⟩ := List.mem_map.mp (h.mem_iff.mp hj)
    show (n : Int) = ((n : Int).toNat : Int)
    omega
  have hp : (ys.map Int.toNat).Perm l := by
    have := h.map Int.toNat
    rw [List.map_map] at this
    refine this.trans (List.Perm.of_eq ((List.map_congr_left fun n _ => ?_).trans (List.map_id _)))
    show (n : Int).toNat = n
    omega
  refine ⟨ys.map Int.toNat, e, hp, ?_⟩
  have hn := hp.nodup_iff.mpr nd
  refine (List.Pairwise.and (List.pairwise_map.mpr (hs.imp_of_mem fun {a b} ha hb hab => ?_)) hn).imp fun {a b} (h : a ≤ b ∧ a ≠ b) => by omega
  obtain ⟨n, _, rfl⟩ := List.mem_map.mp (h.mem_iff.mp ha)
  obtain ⟨m, _, rfl⟩ := List.mem_map.mp (h.mem_iff.mp hb)
  omega
end HM
namespace K
open PySem L2 Evl EX DL HM
section
variable {P : Program} {w : World} {K : PySem.W.Frag} {mg : Str → Option Value} {base : Heap} {CT CH CD : Addr} {en : D}
local macro_rules | `(tactic| walk_at "dl") => `(tactic| try simp only [↓x_lcN, ↓x_lcSN, ↓x_catM, ↓x_neV, ↓x_sortSet, ↓x_sortDLN, ↓x_lrg, ↓x_neg, ↓x_lcS, ↓x_lockE, ↓x_eqA, ↓x_dictD, ↓x_disp, ↓x_pNil, ↓x_pCons, ↓x_forS, ↓x_diSL, ↓x_diKeys, ↓x_lock, ↓x_dictP, ↓x_fld, ↓x_fldS, ↓x_fldA, ↓x_meth, ↓x_make, ↓x_dget, ↓x_din, ↓x_dget1, ↓x_dget2, ↓x_dpop, ↓x_dput, ↓x_listD, ↓x_sortDI, ↓x_lenD, ↓x_isiC, x_icS, x_icI, x_icB, x_icN, x_ioS, x_ioI, x_ioB, x_ioN, ↓x_gSub, ↓x_sortDL, ↓x_eqO, ↓x_ninA, x_catN, x_isBB, x_isBN, x_isBI, x_isBS, x_isBR, ↓x_seq, ↓x_nx, ↓x_pass, ↓x_brk, ↓x_cnt, ↓x_drop, ↓x_ret, ↓x_retN, ↓x_ifS, ↓x_set, ↓x_asg, ↓x_gN, ↓x_gT, ↓x_gsC, ↓x_gsN, ↓x_var, x_rdv, ↓x_c, ↓x_op, ↓x_test, x_tst, ↓x_and, ↓x_or, ↓x_not, ↓x_andV, ↓x_orV, ↓x_notV, x_tstV, ↓x_ifE, x_true, x_false, ↓x_nil, ↓x_cons, ↓x_tup, ↓x_lst, ↓x_new, ↓x_newD, ↓x_call, ↓x_cb, x_oI, x_oIc, x_oS, x_addS, x_isN, x_notN, x_eqI, x_eqS, x_eqIS, x_eqSI, x_eqNS, x_neI, x_neS, x_neB, x_eqB, x_few, x_need, ↓x_ix, x_lenS, x_ixL0, x_ixT0, x_ixT1, x_ixT2, x_ixT3, x_ixT4, x_lenL, x_lenT, x_lenC, x_listL, x_listT, x_tupL, x_tupT, x_strI, x_strS, x_int1, x_intB, x_I1, x_I2, x_cat, x_catT, ↓x_split, ↓x_for, ↓x_cut, ↓x_lc, ↓x_whl, ↓x_diL, ↓x_diT, ↓x_diS, x_itL, x_itC, x_itT, x_itS, ↓x_diR1, ↓x_diR2, ↓x_diE, x_enmL, x_enmC, ↓x_gcN, ↓x_gcT, ↓x_yes, ↓x_ml, ↓x_ms, x_strq, x_ss, x_ssc, x_ssi, ↓x_join, ↓x_aug, x_st2I, ↓x_sl, ↓x_noP, ↓x_part, x_intq, x_slL, x_slC, x_slS, ↓x_in, x_inT, x_inL, x_ninT, x_ninL, x_inN, x_inSS, x_inSI, x_inIS, x_inII, ↓x_sg, x_sgS, x_nsgS, ↓x_eqD, ↓x_inDD, x_mulS, ↓x_isi, x_isiS, x_isiI, x_isiB, x_isiN, x_isiL, x_isiT, ↓x_isTT, x_itI, x_itStr, x_itN, x_itB, x_itLst, x_itTup, ↓x_any, ↓x_all, ↓x_sum, ↓x_srtI, ↓x_srtS, ↓x_intS, ↓x_lenRf, ↓x_tupRf, ↓x_frz', x_flS, x_flI, x_flN, x_flB, x_cs_bool, x_isB_NoneType_bool, x_isB_bool_bool, x_isB_int_bool, x_isB_str_bool, x_isB_list_bool, x_isB_tuple_bool, x_isB_dict_bool, x_cs_int, x_isB_NoneType_int, x_isB_bool_int, x_isB_int_int, x_isB_str_int, x_isB_list_int, x_isB_tuple_int, x_isB_dict_int, x_cs_str, x_isB_NoneType_str, x_isB_bool_str, x_isB_int_str, x_isB_str_str, x_isB_list_str, x_isB_tuple_str, x_isB_dict_str, x_cs_list, x_isB_NoneType_list, x_isB_bool_list, x_isB_int_list, x_isB_str_list, x_isB_list_list, x_isB_tuple_list, x_isB_dict_list, x_cs_tuple, x_isB_NoneType_tuple, x_isB_bool_tuple, x_isB_int_tuple, x_isB_str_tuple, x_isB_list_tuple, x_isB_tuple_tuple, x_isB_dict_tuple, x_cs_dict, x_isB_NoneType_dict, x_isB_bool_dict, x_isB_int_dict, x_isB_str_dict, x_isB_list_dict, x_isB_tuple_dict, x_isB_dict_dict, List.all_cons, List.all_nil, Bool.and_self, Bool.or_false, Bool.or_true, Bool.false_or, Bool.true_or, wipeD, setD, DL.isNon, List.set_cons_zero, List.set_cons_succ, List.getElem?_cons_zero, List.getElem?_cons_succ, List.length_cons, List.length_nil, Nat.zero_add, List.cons_append, List.nil_append, decide_true, decide_false, Bool.not_true, Bool.not_false, true_and, and_true, startD, List.map_cons, List.map_nil, Nat.reduceSub, Nat.reduceLeDiff, Nat.zero_le, Int.reduceLT, Int.reduceLE, and_self, Nat.reduceAdd, List.replicate])
theorem there_get {H : HA} {l : List Nat} {n : Nat} (h : n ∈ l) : gval (l.map fun n : Nat => ((.inl (n : Int), .ref (H.a (.t n))) : Key × D)) (.inl (n : Int)) = some (.ref (H.a (.t n))) := by
  induction l with
  | nil => cases h
  | cons k l ih =>
    unfold gval at ih ⊢
    rw [List.map_cons, List.find?_cons]
    by_cases z : k = n
    · subst z
      simp
    · have : ¬ ((Sum.inl (k : Int) : Key) = Sum.inl (n : Int)) := fun y => z (by have := Sum.inl.inj y; omega)
      simp only [this, decide_false]
      exact ih ((List.mem_cons.mp h).resolve_left (Ne.symm z))
/-- what is there but some -/
def dOthers (CT CH : Addr) (en : D) : SpD := fun ds S k _ => ∃ (H : HA) (s : Hs) (l : List Nat), ds = [.ref (H.a .hall), .list (refs H l)] ∧ HRep CT CH en H s S ∧ Wf s ∧ (∀ n ∈ l, 1 ≤ n ∧ n ≤ s.many) ∧ l.length ≤ 5000 ∧
  ∀ (o : List Nat) S', Kpt S S' → (∀ n, n ∈ o ↔ n ∈ s.there ∧ n ∉ l) → o.length ≤ 5000 → k (.list (refs H o)) S'
theorem ok_others {fa : Addr} {fd : FuncData} (F : Fun K "others_there" "others_there" s_others_there fa fd) (T : Txt K mg CT CH) (G_Hall_things : MDef P w K mg base 1 CH "things" ["self"] (lSp K (dThings CT CH en))) : FnOk P w K mg base CX0 4 fa fd ["hall", "things"] (lSp K (dOthers CT CH en)) := by
  refine dok F sc_others_there (fun ds S q qx ⟨H, s, l, h, _⟩ => by rw [h]; rfl) ⟨_, fun cdv A outer s H E hr => dss_cons (ds_set (i := 2) sc_others_there.nd rfl (Or.inr rfl) (de_newD))
      (dss_cons (ds_for PassesOwn.never rfl (di_list (K := K) (de_var 1)) (dg_name (i := 3) sc_others_there.nd rfl (Or.inl rfl))
        (dss_one (ds_dput (hu_of hr) (de_var 2) (de_fld T.Thing_ (by decide +kernel) (de_var 3)) (de_bl))))
      (dss_one (ds_ret (de_lc (own := [("number", 4)]) (gc_name (j := 4) (by decide)) rfl sc_others_there.nd (di_list (K := K) (de_meth0 T.Hall_ G_Hall_things (hr.mono (by decide)) (de_var 0))) (blkOk_by (N := N_others_there) (sc := defScope s_others_there) (by decide +kernel)) (fun _ _ _ _ _ => pg_name (i := 4) sc_others_there.nd rfl (Or.inl rfl)) (fun _ _ _ _ _ => dts_one (dt_dinN (hu_of hr) (de_var 4) (de_var 2))) (fun _ _ _ _ _ => de_dget (hu_of hr) (de_fld T.Hall_ (by decide +kernel) (de_var 0)) (de_var 4) (fun _ _ => rfl)))))), fun ds S q qx ⟨H, s, l, hd, R, W, hlb, hll, h⟩ => ?_⟩
  subst hd
  walk_at "dl"
  refine freshOf fun pn hpn => ?_
  have kp0 : Kpt S (put S pn (.dct [])) := Kpt.refl.put hpn _
  have e0 : put S pn (.dct []) pn = some (.dct []) := put_same
  generalize put S pn (.dct []) = S1 at kp0 e0
  walk_at "dl"
  refine forOf (fun i δ S' => ∃ z, δ = [some (.ref (H.a .hall)), some (.list (refs H l)), some (.ref pn), z, none] ∧ Kpt S S' ∧ ∃ kvs : List (Key × D), S' pn = some (.dct kvs) ∧ kvs.length ≤ i ∧ ∀ j : Nat, (gval kvs (.inl (j : Int))).isSome = true ↔ j ∈ l.take i) ⟨_, rfl, kp0, [], e0, Nat.le_refl _, fun j => by simp [gval]⟩ ?_ ?_
  · rintro i d δ S2 hi ⟨z, rfl, kp2, kvs, hk, hkl, hkm⟩
    unfold refs at hi
    rw [List.getElem?_map] at hi
    obtain ⟨n, hn, rfl⟩ := Option.map_eq_some_iff.mp hi
    have hb := hlb n (List.mem_of_getElem? hn)
    have hil := (List.getElem?_eq_some_iff.mp hn).1
    walk_at "dl"
    refine fldOf (hrep_t (Kpt.tr R kp2).rep hb.1 hb.2) th_number ?_
    walk_at "dl"
    refine dputOf hk rfl (by omega) ?_
    refine ⟨_, rfl, kp2.put hpn _, _, put_same, Nat.le_trans gput_len (by omega), fun j' => ?_⟩
    rw [gput_some, hkm, List.take_add_one, hn, List.mem_append]
    simp only [Sum.inl.injEq, Option.toList_some, List.mem_singleton, Int.natCast_inj]
  · rintro δ S2 ⟨z, rfl, kp2, kvs, hk, hkl, hkm⟩
    unfold refs at hkm
    rw [List.length_map, List.take_length] at hkm
    have R2 := (Kpt.tr R kp2).rep
    walk_at "dl"
    refine needOf (methOf (x := .non) (hrep_hall R2) rfl) ?_
    walk_at "dl"
    refine ⟨H, s, rfl, R2, W, fun ys hp hs => ?_⟩
    obtain ⟨ns, rfl, hpn, hsn⟩ := perm_nats hp hs W.nd
    have hnl : ns.length ≤ 5000 := by
      have := hpn.length_eq
      have := W.len
      have := W.most
      omega
    rw [List.map_map]
    walk_at "dl"
    refine lcOf (fun i acc => acc = refs H ((ns.take i).filter fun n : Nat => !(gval kvs (.inl (n : Int))).isSome)) (by rw [List.length_map]; omega) rfl ?_ ?_
    · rintro pl hpl i d acc hi rfl
      rw [List.getElem?_map] at hi
      obtain ⟨n, hn, rfl⟩ := Option.map_eq_some_iff.mp hi
      have hnt : n ∈ s.there := hpn.mem_iff.mp (List.mem_of_getElem? hn)
      have kp3 := kp2.put (p := pl) (by cases e : S pl with | none => rfl | some o => rw [kp2 pl (nn e), e] at hpl; cases hpl) (.lst (refs H ((ns.take i).filter fun n : Nat => !(gval kvs (.inl (n : Int))).isSome)))
      have R3 := (Kpt.tr R kp3).rep
      show gcN 4 (.int (n : Int)) _ _
      walk_at "dl"
      refine dninOf ((put_ne (sto_ne hk hpl)).trans hk) rfl ?_
      walk_at "dl"
      have etk : (ns.take (i + 1)).filter (fun n : Nat => !(gval kvs (.inl (n : Int))).isSome) = (ns.take i).filter (fun n : Nat => !(gval kvs (.inl (n : Int))).isSome) ++ if (!(gval kvs (.inl (n : Int))).isSome) = true then [n] else [] := by
        rw [List.take_add_one, hn, List.filter_append]
        congr 1
        show List.filter _ [n] = _
        rw [List.filter_cons]
        rfl
      refine br (fun hb => ?_) (fun hb => ?_)
      · walk_at "dl"
        refine fldOf (hrep_hall R3) ha_there ?_
        walk_at "dl"
        refine dgetOf (hrep_th R3) rfl (there_get hnt) ?_
        refine LcO.of hpl ?_
        rw [etk, if_pos hb]
        unfold refs
        rw [List.map_append]
        rfl
      · refine LcO.of hpl ?_
        rw [etk, if_neg (by rw [hb]; exact nofun), List.append_nil]
    · rintro acc rfl
      rw [List.length_map, List.take_length]
      refine h _ S2 kp2 (fun n => ?_) (Nat.le_trans (List.length_filter_le ..) hnl)
      rw [List.mem_filter, hpn.mem_iff, Bool.not_eq_true', ← Bool.not_eq_true, hkm]
/-- some are gone together -/
def dAllGo (CT CH : Addr) (en : D) (ask : AskR) : SpD := fun ds S k _ => ∃ (H : HA) (s : Hs) (l : List Nat) (f : Nat) (s' : Hs), ds = [.ref (H.a .hall), .list (refs H l)] ∧ HRep CT CH en H s S ∧ Wf s ∧ Good s ∧ s.row = none ∧ l.Nodup ∧ (∀ n ∈ l, n ∈ s.there) ∧ Work ask f (((s.rowed (some [])).gones l).empts l) s' ∧
  ∀ H' S', HTr CT CH en H s S H' s' S' → k .non S'
theorem ok_all_go {L : Nat} {ask : AskR} (hL : 3 ≤ L) {fa : Addr} {fd : FuncData} (F : Fun K "let_all_go" "Hall.let_all_go" s_Hall_let_all_go fa fd) (T : Txt K mg CT CH) (G_Hall_be_gone : MDef P w K mg base 1 CH "be_gone" ["self", "thing"] (lSp K (dBeGone CT CH en))) (G_Hall_empty : MDef P w K mg base 3 CH "empty" ["self", "thing"] (lSp K (dEmpty CT CH en)))
    (G_Hall_work : MDef P w K mg base L CH "work" ["self"] (lSp K (dWork CT CH en ask))) : FnOk P w K mg base CX0 (L + 1) fa fd ["self", "things"] (lSp K (dAllGo CT CH en ask)) := by
  refine dok F sc_Hall_let_all_go (fun ds S q qx ⟨H, s, l, f, s', h, _⟩ => by rw [h]; rfl) ⟨_, fun cdv A outer s H E hr => dss_cons (ds_fld T.Hall_ (by decide +kernel) (de_var 0) (de_new (da_nil)))
      (dss_cons (ds_for PassesOwn.never rfl (di_list (K := K) (de_var 1)) (dg_name (i := 2) sc_Hall_let_all_go.nd rfl (Or.inl rfl))
        (dss_one (ds_expr (de_meth T.Hall_ G_Hall_be_gone (hr.mono (by omega)) (de_var 0) (da_cons (de_var 2) da_nil)))))
      (dss_cons (ds_for PassesOwn.never rfl (di_list (K := K) (de_var 1)) (dg_name (i := 2) sc_Hall_let_all_go.nd rfl (Or.inl rfl))
        (dss_one (ds_expr (de_meth T.Hall_ G_Hall_empty (hr.mono (by omega)) (de_var 0) (da_cons (de_var 2) da_nil)))))
      (dss_one (ds_expr (de_meth0 T.Hall_ G_Hall_work (hr.mono (by omega)) (de_var 0)))))), fun ds S q qx ⟨H, s, l, f, s', hd, R, W, G, hrow, nd, hin, hw, h⟩ => ?_⟩
  subst hd
  walk_at "dl"
  refine freshOf fun p hp => ?_
  have R0 := HTr.begun R hrow hp []
  have hh0 : put S p (.lst []) (H.a .hall) = _ := (put_ne (sto_ne (hrep_hall R) hp)).trans (hrep_hall R)
  walk_at "dl"
  refine fldsOf hh0 (Nat.le_of_ble_eq_true rfl) ?_
  rw [ha_row']
  have R0 : HTr CT CH en H s S { H with a := fun x => if x = .row then p else H.a x } (s.rowed (some [])) (put (put S p (.lst [])) (H.a .hall) (.ins CH H.dx (haFs en (.int (s.many : Int)) (.ref (H.a .th)) (.ref (H.a .lf)) (.ref p) (.int (s.lasts : Int))))) := R0
  generalize put (put S p (.lst [])) (H.a .hall) (.ins CH H.dx (haFs en (.int (s.many : Int)) (.ref (H.a .th)) (.ref (H.a .lf)) (.ref p) (.int (s.lasts : Int)))) = S1 at R0
  generalize ({ H with a := fun x => if x = .row then p else H.a x } : HA) = H1 at R0
  have tk : ∀ {i n : Nat}, l[i]? = some n → l.take (i + 1) = l.take i ++ [n] := fun h => by rw [List.take_add_one, h]; rfl
  have ndt : ∀ i, (l.take i).Nodup := fun i => nd.sublist (List.take_sublist i l)
  have tin : ∀ i, ∀ n ∈ l.take i, n ∈ (s.rowed (some [])).there := fun i n hn => hin n (List.mem_of_mem_take hn)
  have gn : ∀ i, Gns (s.rowed (some [])) ((s.rowed (some [])).gones (l.take i)) (l.take i) := fun i => gones_ok W.rowed0 (G.rowed _) (ndt i) (tin i)
  have nth : ∀ {i n : Nat}, l[i]? = some n → n ∉ l.take i := fun {i n} h z => by
    have := ndt (i + 1)
    rw [tk h] at this
    exact (List.nodup_append.mp this).2.2 n z n (List.mem_singleton.mpr rfl) rfl
  have hbd : ∀ n ∈ l, 1 ≤ n ∧ n ≤ s.many := fun n hn => W.tin n (hin n hn)
  walk_at "dl"
  refine forOf (fun i δ S' => ∃ z H', δ = [some (.ref (H.a .hall)), some (.list (refs H l)), z] ∧ HTr CT CH en H s S H' ((s.rowed (some [])).gones (l.take i)) S') ⟨_, H1, rfl, R0⟩ ?_ ?_
  · rintro i d δ S2 hi ⟨z, H2, rfl, T2⟩
    unfold refs at hi
    rw [List.getElem?_map] at hi
    obtain ⟨n, hn, rfl⟩ := Option.map_eq_some_iff.mp hi
    have hb := hbd n (List.mem_of_getElem? hn)
    walk_at "dl"
    refine needOf (methOf (x := .non) (by rw [← T2.hall]; exact hrep_hall T2.rep) rfl) ?_
    walk_at "dl"
    refine ⟨H2, _, n, by rw [T2.hall, T2.t hb.1 hb.2], T2.rep, (gn i).W, ((gn i).there n).mpr ⟨hin n (List.mem_of_getElem? hn), nth hn⟩, fun S3 T3 => ?_⟩
    walk_at "dl"
    refine ⟨_, H2, rfl, ?_⟩
    rw [tk hn, gones_snoc]
    exact T2.trans T3
  · rintro δ S2 ⟨z, H2, rfl, T2⟩
    have elen : (refs H l).length = l.length := by unfold refs; rw [List.length_map]
    rw [elen, List.take_length] at T2
    have gl := gn l.length
    rw [List.take_length] at gl
    have em : ∀ i, Ems ((s.rowed (some [])).gones l) (((s.rowed (some [])).gones l).empts (l.take i)) (l.take i) := fun i => empts_ok gl.W gl.G (ndt i) fun n hn => by rw [gl.rest]; exact List.mem_append_right _ (List.mem_of_mem_take hn)
    have hr0 : ((s.rowed (some [])).gones l).row ≠ none := by rw [gl.row]; exact nofun
    walk_at "dl"
    refine forOf (fun i δ S' => ∃ z H', δ = [some (.ref (H.a .hall)), some (.list (refs H l)), z] ∧ HTr CT CH en H s S H' (((s.rowed (some [])).gones l).empts (l.take i)) S') ⟨_, H2, rfl, T2⟩ ?_ ?_
    · rintro i d δ S3 hi ⟨z, H3, rfl, T3⟩
      unfold refs at hi
      rw [List.getElem?_map] at hi
      obtain ⟨n, hn, rfl⟩ := Option.map_eq_some_iff.mp hi
      have hb := hbd n (List.mem_of_getElem? hn)
      walk_at "dl"
      refine needOf (methOf (x := .non) (by rw [← T3.hall]; exact hrep_hall T3.rep) rfl) ?_
      walk_at "dl"
      refine ⟨H3, _, n, by rw [T3.hall, T3.t hb.1 hb.2], T3.rep, (em i).W, hb.1, by rw [(em i).many, gl.many]; exact hb.2, (em i).row hr0, fun S4 T4 => ?_⟩
      walk_at "dl"
      refine ⟨_, H3, rfl, ?_⟩
      rw [tk hn, empts_snoc]
      exact (T3.trans T4).trans (HTr.ghost T4.rep rfl rfl)
    · rintro δ S3 ⟨z, H3, rfl, T3⟩
      rw [elen, List.take_length] at T3
      have em := em l.length
      rw [List.take_length] at em
      walk_at "dl"
      refine needOf (methOf (x := .non) (by rw [← T3.hall]; exact hrep_hall T3.rep) rfl) ?_
      walk_at "dl"
      refine ⟨H3, _, f, s', by rw [T3.hall], T3.rep, em.W, hw, fun H4 S4 T4 => ?_⟩
      walk_at "dl"
      exact h H4 S4 (T3.trans T4)
end
end K

set_option Elab.async false
set_option linter.all false
set_option maxRecDepth 100000
namespace DL
open PySem L2 Evl EX
theorem lcNOf {δ : Dst} {k : DK} {de : DE} {gc : DGc} {t : DT} {ds : List D} {vs : List Nat} (P : Nat → List D → Prop) (hl : ds.length < 100000) (h0 : P 0 [])
    (hs : ∀ p, S p = none → ∀ n d acc, ds[n]? = some d → P n acc → gc d (wipeD δ vs) fun δ2 => t δ2 (put S p (.lst acc)) fun b S2 => branch b (de δ2 S2 (fun y S3 => LcO S p acc (P (n + 1) (acc ++ [y])) S3)) (LcO S p acc (P (n + 1) acc) S2) ⟨⟩) (hd : ∀ acc p, S p = none → P ds.length acc → k (.ref p) (put S p (.lst acc))) :
    lcNC ds gc t de vs δ S k ⟨⟩ := by
  refine ⟨hl, fun p hp => ⟨fun n acc S' => S' = S ∧ P n acc, ⟨rfl, h0⟩, ?_, ?_⟩⟩
  · rintro n d acc S' hd' _ ⟨rfl, hP⟩
    exact hs p hp n d acc hd' hP
  · rintro acc S' _ ⟨rfl, hP⟩
    exact hd acc p hp hP
theorem Rep.keep (R : Rep A C S) (h : ∀ l, C l ≠ none → S' (A l) = S (A l)) : Rep A C S' := ⟨fun {l o} e => by rw [h l (nn e)]; exact R.at_ e, R.inj⟩
end DL
namespace HM
open PySem L2 DL
def Sz (s : Hs) : Prop := msum (fun n => (ledP s n).length + 1) s.many ≤ 80000
theorem Sz.parts {s s' : Hs} (h : Sz s) (h1 : s'.parts = s.parts) (h2 : s'.many = s.many) : Sz s' := by
  unfold Sz ledP at *
  rw [h1, h2]
  exact h
end HM
namespace K
open PySem L2 Evl EX DL HM
section
variable {P : Program} {w : World} {K : PySem.W.Frag} {mg : Str → Option Value} {base : Heap} {CT CH CD : Addr} {en : D}
local macro_rules | `(tactic| walk_at "dl") => `(tactic| try simp only [↓x_lcN, ↓x_lcSN, ↓x_catM, ↓x_neV, ↓x_sortSet, ↓x_sortDLN, ↓x_lrg, ↓x_neg, ↓x_lcS, ↓x_lockE, ↓x_eqA, ↓x_dictD, ↓x_disp, ↓x_pNil, ↓x_pCons, ↓x_forS, ↓x_diSL, ↓x_diKeys, ↓x_lock, ↓x_dictP, ↓x_fld, ↓x_fldS, ↓x_fldA, ↓x_meth, ↓x_make, ↓x_dget, ↓x_din, ↓x_dget1, ↓x_dget2, ↓x_dpop, ↓x_dput, ↓x_listD, ↓x_sortDI, ↓x_lenD, ↓x_isiC, x_icS, x_icI, x_icB, x_icN, x_ioS, x_ioI, x_ioB, x_ioN, ↓x_gSub, ↓x_sortDL, ↓x_eqO, ↓x_ninA, x_catN, x_isBB, x_isBN, x_isBI, x_isBS, x_isBR, ↓x_seq, ↓x_nx, ↓x_pass, ↓x_brk, ↓x_cnt, ↓x_drop, ↓x_ret, ↓x_retN, ↓x_ifS, ↓x_set, ↓x_asg, ↓x_gN, ↓x_gT, ↓x_gsC, ↓x_gsN, ↓x_var, x_rdv, ↓x_c, ↓x_op, ↓x_test, x_tst, ↓x_and, ↓x_or, ↓x_not, ↓x_andV, ↓x_orV, ↓x_notV, x_tstV, ↓x_ifE, x_true, x_false, ↓x_nil, ↓x_cons, ↓x_tup, ↓x_lst, ↓x_new, ↓x_newD, ↓x_call, ↓x_cb, x_oI, x_oIc, x_oS, x_addS, x_isN, x_notN, x_eqI, x_eqS, x_eqIS, x_eqSI, x_eqNS, x_neI, x_neS, x_neB, x_eqB, x_few, x_need, ↓x_ix, x_lenS, x_ixL0, x_ixT0, x_ixT1, x_ixT2, x_ixT3, x_ixT4, x_lenL, x_lenT, x_lenC, x_listL, x_listT, x_tupL, x_tupT, x_strI, x_strS, x_int1, x_intB, x_I1, x_I2, x_cat, x_catT, ↓x_split, ↓x_for, ↓x_cut, ↓x_lc, ↓x_whl, ↓x_diL, ↓x_diT, ↓x_diS, x_itL, x_itC, x_itT, x_itS, ↓x_diR1, ↓x_diR2, ↓x_diE, x_enmL, x_enmC, ↓x_gcN, ↓x_gcT, ↓x_yes, ↓x_ml, ↓x_ms, x_strq, x_ss, x_ssc, x_ssi, ↓x_join, ↓x_aug, x_st2I, ↓x_sl, ↓x_noP, ↓x_part, x_intq, x_slL, x_slC, x_slS, ↓x_in, x_inT, x_inL, x_ninT, x_ninL, x_inN, x_inSS, x_inSI, x_inIS, x_inII, ↓x_sg, x_sgS, x_nsgS, ↓x_eqD, ↓x_inDD, x_mulS, ↓x_isi, x_isiS, x_isiI, x_isiB, x_isiN, x_isiL, x_isiT, ↓x_isTT, x_itI, x_itStr, x_itN, x_itB, x_itLst, x_itTup, ↓x_any, ↓x_all, ↓x_sum, ↓x_srtI, ↓x_srtS, ↓x_intS, ↓x_lenRf, ↓x_tupRf, ↓x_frz', x_flS, x_flI, x_flN, x_flB, x_cs_bool, x_isB_NoneType_bool, x_isB_bool_bool, x_isB_int_bool, x_isB_str_bool, x_isB_list_bool, x_isB_tuple_bool, x_isB_dict_bool, x_cs_int, x_isB_NoneType_int, x_isB_bool_int, x_isB_int_int, x_isB_str_int, x_isB_list_int, x_isB_tuple_int, x_isB_dict_int, x_cs_str, x_isB_NoneType_str, x_isB_bool_str, x_isB_int_str, x_isB_str_str, x_isB_list_str, x_isB_tuple_str, x_isB_dict_str, x_cs_list, x_isB_NoneType_list, x_isB_bool_list, x_isB_int_list, x_isB_str_list, x_isB_list_list, x_isB_tuple_list, x_isB_dict_list, x_cs_tuple, x_isB_NoneType_tuple, x_isB_bool_tuple, x_isB_int_tuple, x_isB_str_tuple, x_isB_list_tuple, x_isB_tuple_tuple, x_isB_dict_tuple, x_cs_dict, x_isB_NoneType_dict, x_isB_bool_dict, x_isB_int_dict, x_isB_str_dict, x_isB_list_dict, x_isB_tuple_dict, x_isB_dict_dict, List.all_cons, List.all_nil, Bool.and_self, Bool.or_false, Bool.or_true, Bool.false_or, Bool.true_or, wipeD, setD, DL.isNon, List.set_cons_zero, List.set_cons_succ, List.getElem?_cons_zero, List.getElem?_cons_succ, List.length_cons, List.length_nil, Nat.zero_add, List.cons_append, List.nil_append, decide_true, decide_false, Bool.not_true, Bool.not_false, true_and, and_true, startD, List.map_cons, List.map_nil, Nat.reduceSub, Nat.reduceLeDiff, Nat.zero_le, Int.reduceLT, Int.reduceLE, and_self, Nat.reduceAdd, List.replicate])
/-- values that stand around, beside a hall -/
structure Arnd (CT CH CD : Addr) (en : D) (H : HA) (s : Hs) (a dx l : Addr) (rs : List Vl) (S : Sto) : Prop where
  ea : S a = some (.ins CD dx (heFs (.ref l)))
  el : S l = some (.lst (rs.map (vD H)))
  na : ∀ x, hC CT CH en H s x ≠ none → a ≠ H.a x
  nl : ∀ x, hC CT CH en H s x ≠ none → l ≠ H.a x
theorem Arnd.step {H H' : HA} {s s' : Hs} {a dx l : Addr} {rs : List Vl} {S S' : Sto} (A : Arnd CT CH CD en H s a dx l rs S) (T : HTr CT CH en H s S H' s' S') (hr : ∀ v ∈ rs, VOk s.many v) : Arnd CT CH CD en H' s' a dx l rs S' := by
  have nw : ∀ b, S b ≠ none → (∀ x, hC CT CH en H s x ≠ none → b ≠ H.a x) → ∀ x, hC CT CH en H' s' x ≠ none → b ≠ H'.a x := fun b hb hn x hx z => by
    rcases T.tr.ext x hx with ⟨h1, h2⟩ | h1
    · exact hn x h1 (z.trans h2)
    · rw [← z] at h1; exact hb h1
  refine ⟨T.tr.other A.ea A.na, ?_, nw a (nn A.ea) A.na, nw l (nn A.el) A.nl⟩
  have e : rs.map (vD H') = rs.map (vD H) := List.map_congr_left fun v hv => by
    cases v with
    | no d => rfl
    | th n => have := hr _ hv; exact congrArg D.ref (T.t this.1 this.2)
  rw [e]
  exact T.tr.other A.el A.nl
def dSwept (CT CH CD : Addr) (en : D) (ask : AskR) : SpD := fun ds S k _ => ∃ (H : HA) (s : Hs) (a dx l : Addr) (rs : List Vl) (lost : List Nat) (s' : Hs), ds = [.ref (H.a .hall), .ref a] ∧ HRep CT CH en H s S ∧ Arnd CT CH CD en H s a dx l rs S ∧ Wf s ∧ Good s ∧ Cl s ∧ s.rest = [] ∧ (∀ i, s.ends.count i ≤ s.outer.count i) ∧
  (∀ v ∈ rs, VOk s.many v) ∧ rs.length ≤ 4000 ∧ Sz s ∧ (∀ l1 s1, AskAll ask (s.ups l1) l1 s1 → Sz s1) ∧ Swept ask rs s lost s' ∧ ∀ H' S' p, HTr CT CH en H s S H' s' S' → S' p = none → k (.ref p) (put S' p (.lst (lost.map fun n : Nat => .int (n : Int))))
theorem ok_swept {L : Nat} {ask : AskR} (KA : AskCl ask) (hL : 4 ≤ L) {fa : Addr} {fd : FuncData} (F : Fun K "swept" "swept" s_swept fa fd) (T : TxW K mg CT CH CD) (G_Hall_at_work : MDef P w K mg base 1 CH "at_work" ["self"] (lSp K (dAtWork CT CH en))) (G_Hall_things : MDef P w K mg base 1 CH "things" ["self"] (lSp K (dThings CT CH en)))
    (G_without : DefD P w K mg base 4 "without" ["hall", "things", "roots"] (dWithout CT CH en)) (G_Held_held : MDef P w K mg base 1 CD "held" ["self"] (lSp K (dHeld CD))) (G_Hall_hold : MDef P w K mg base 1 CH "hold" ["self", "value"] (lSp K (dHold CT CH en)))
    (G_Hall_ask_last : MDef P w K mg base L CH "ask_last" ["self", "thing"] (lSp K (dAsk CT CH en ask))) (G_others_there : DefD P w K mg base 4 "others_there" ["hall", "things"] (dOthers CT CH en)) (G_Hall_let_all_go : MDef P w K mg base (L + 3) CH "let_all_go" ["self", "things"] (lSp K (dAllGo CT CH en ask))) :
    FnOk P w K mg base CX0 (L + 4) fa fd ["hall", "around"] (lSp K (dSwept CT CH CD en ask)) := by
  refine dok F sc_swept (fun ds S q qx ⟨H, s, a, dx, l, rs, lost, s', h, _⟩ => by rw [h]; rfl) ⟨_, fun cdv A outer s H E hr => dss_cons (ds_if (dt_val (de_meth0 T.Hall_ G_Hall_at_work (hr.mono (by omega)) (de_var 0)))
        (dss_one (ds_ret (de_new (da_nil))))
        (dss_nil))
      (dss_cons (ds_set (i := 2) sc_swept.nd rfl (Or.inl rfl) (de_call G_without (hr.mono (by omega)) (by rfl) (da_cons (de_var 0) (da_cons (de_lc (own := [("number", 4)]) (gc_name (j := 4) (by decide)) rfl sc_swept.nd (di_list (K := K) (de_meth0 T.Hall_ G_Hall_things (hr.mono (by omega)) (de_var 0))) (blkOk_by (N := N_swept) (sc := defScope s_swept) (by decide +kernel)) (fun _ _ _ _ _ => pg_name (i := 4) sc_swept.nd rfl (Or.inl rfl)) (fun _ _ _ _ _ => dts_nil) (fun _ _ _ _ _ => de_dget (hu_of hr) (de_fld T.Hall_ (by decide +kernel) (de_var 0)) (de_var 4) (fun _ _ => rfl))) (da_cons (de_meth0 T.Held_ G_Held_held (hr.mono (by omega)) (de_var 1)) da_nil)))))
      (dss_cons (ds_for PassesOwn.never rfl (di_list (K := K) (de_var 2)) (dg_name (i := 3) sc_swept.nd rfl (Or.inl rfl))
        (dss_one (ds_expr (de_meth T.Hall_ G_Hall_hold (hr.mono (by omega)) (de_var 0) (da_cons (de_var 3) da_nil)))))
      (dss_cons (ds_for PassesOwn.never rfl (di_list (K := K) (de_var 2)) (dg_name (i := 3) sc_swept.nd rfl (Or.inl rfl))
        (dss_one (ds_expr (de_meth T.Hall_ G_Hall_ask_last (hr.mono (by omega)) (de_var 0) (da_cons (de_var 3) da_nil)))))
      (dss_cons (ds_for PassesOwn.never rfl (di_list (K := K) (de_var 2)) (dg_name (i := 3) sc_swept.nd rfl (Or.inl rfl))
        (dss_one (ds_fldaug T.Thing_ (by decide +kernel) (de_var 3) (de_int) in_sub)))
      (dss_cons (ds_set (i := 2) sc_swept.nd rfl (Or.inl rfl) (de_call G_without (hr.mono (by omega)) (by rfl) (da_cons (de_var 0) (da_cons (de_var 2) (da_cons (de_op op_cat si_cat (de_meth0 T.Held_ G_Held_held (hr.mono (by omega)) (de_var 1)) (de_call G_others_there (hr.mono (by omega)) (by rfl) (da_cons (de_var 0) (da_cons (de_var 2) da_nil)))) da_nil)))))
      (dss_cons (ds_expr (de_meth T.Hall_ G_Hall_let_all_go (hr.mono (by omega)) (de_var 0) (da_cons (de_var 2) da_nil)))
      (dss_one (ds_ret (de_lcN (own := [("thing", 3)]) (gc_name (j := 3) (by decide)) rfl sc_swept.nd (di_list (K := K) (de_var 2)) (blkOk_by (N := N_swept) (sc := defScope s_swept) (by decide +kernel)) (fun _ _ _ _ _ => pg_name (i := 3) sc_swept.nd rfl (Or.inl rfl)) (fun _ _ _ _ _ => dts_nil) (fun _ _ _ _ _ => de_fld T.Thing_ (by decide +kernel) (de_var 3))))))))))), fun ds S q qx ⟨H, s, a, dx, l, rs, lost, s', hd, R, Ar, W, G, C, hrest, heb, hrs, hrl, hsz, hszA, hsw, h⟩ => ?_⟩
  subst hd
  walk_at "dl"
  refine needOf (methOf (x := .non) (hrep_hall R) rfl) ?_
  walk_at "dl"
  refine ⟨H, s, rfl, R, ?_⟩
  cases hsw with
  | busy hb =>
    have e : (decide (0 < s.lasts) || s.row.isSome) = true := by
      rcases hb with hb | hb
      · rw [decide_eq_true hb]; rfl
      · rw [Option.isSome_iff_ne_none.mpr hb, Bool.or_true]
    rw [e]
    walk_at "dl"
    exact freshOf fun p hp => h H S p (HTr.refl R) hp
  | mk l0 r0 L0 AA L1 ht W1 =>
    rename_i s1 lost0 f
    have e : (decide (0 < s.lasts) || s.row.isSome) = false := by rw [l0, r0]; rfl
    rw [e]
    walk_at "dl"
    refine needOf (methOf (x := .non) (hrep_hall R) rfl) ?_
    walk_at "dl"
    refine ⟨H, s, rfl, R, W, fun ys hp hs => ?_⟩
    obtain ⟨ns, rfl, hpn, hsn⟩ := perm_nats hp hs W.nd
    have hnl : ns.length ≤ 5000 := by
      have := hpn.length_eq
      have := W.len
      have := W.most
      omega
    rw [List.map_map]
    walk_at "dl"
    refine lcOf (fun i acc => acc = refs H (ns.take i)) (by rw [List.length_map]; omega) rfl ?_ ?_
    · rintro pl hpl i d acc hi rfl
      rw [List.getElem?_map] at hi
      obtain ⟨n, hn, rfl⟩ := Option.map_eq_some_iff.mp hi
      have hnt : n ∈ s.there := hpn.mem_iff.mp (List.mem_of_getElem? hn)
      have kp3 : Kpt S (put S pl (.lst (refs H (ns.take i)))) := Kpt.refl.put hpl _
      have R3 := (Kpt.tr R kp3).rep
      show gcN _ (.int (n : Int)) _ _
      walk_at "dl"
      refine fldOf (hrep_hall R3) ha_there ?_
      walk_at "dl"
      refine dgetOf (hrep_th R3) rfl (there_get hnt) ?_
      refine LcO.of hpl ?_
      rw [List.take_add_one, hn]
      unfold refs
      rw [List.map_append]
      rfl
    · rintro acc rfl
      rw [List.length_map, List.take_length]
      walk_at "dl"
      refine needOf (methOf (x := .non) Ar.ea rfl) ?_
      walk_at "dl"
      refine ⟨a, dx, l, _, rfl, Ar.ea, Ar.el, ?_⟩
      walk_at "dl"
      have hin : ∀ n ∈ ns, n ∈ s.there := fun n hn => hpn.mem_iff.mp hn
      refine ⟨H, s, ns, rs, rfl, R, W, C.ow, fun n hn => W.tin n (hin n hn), hnl, hrs, by have : msum (fun n => (ledP s n).length + 1) s.many ≤ 80000 := hsz; omega, fun p S1 kp1 hpp => ?_⟩
      have el0 : ns.filter p = lost0 := lost_uniq (s := s) (base := (· ∈ s.there)) (rs := rs) ⟨hsn.filter p, fun n => by rw [List.mem_filter, hpn.mem_iff, hpp]⟩ L0
      rw [el0]
      have hlin : ∀ n ∈ lost0, n ∈ s.there := fun n hn => ((L0.mem n).mp hn).1
      have hlb : ∀ n ∈ lost0, 1 ≤ n ∧ n ≤ s.many := fun n hn => W.tin n (hlin n hn)
      have nd0 : lost0.Nodup := L0.srt.imp fun h e => by omega
      have hll : lost0.length ≤ 5000 := by have h1 := perm_len nd0 hlb; have h2 := W.most; omega
      have T1 := Kpt.tr R kp1
      have tk : ∀ {i n : Nat}, lost0[i]? = some n → lost0.take (i + 1) = lost0.take i ++ [n] := fun h => by rw [List.take_add_one, h]; rfl
      walk_at "dl"
      refine forOf (fun i δ S' => ∃ z H', δ = [some (.ref (H.a .hall)), some (.ref a), some (.list (refs H lost0)), z, none] ∧ HTr CT CH en H s S H' (s.ups (lost0.take i)) S') ⟨_, H, rfl, T1⟩ ?_ ?_
      · rintro i d δ S2 hi ⟨z, H2, rfl, T2⟩
        unfold refs at hi
        rw [List.getElem?_map] at hi
        obtain ⟨n, hn, rfl⟩ := Option.map_eq_some_iff.mp hi
        have hb := hlb n (List.mem_of_getElem? hn)
        obtain ⟨u1, u2, u3, u4, u5, _⟩ := ups_rest (lost0.take i) s
        walk_at "dl"
        refine needOf (methOf (x := .non) (by rw [← T2.hall]; exact hrep_hall T2.rep) rfl) ?_
        walk_at "dl"
        refine ⟨H2, _, .th n, by rw [T2.hall]; show _ = [_, D.ref (H2.a (.t n))]; rw [T2.t hb.1 hb.2], T2.rep, (show 1 ≤ n ∧ n ≤ (s.ups (lost0.take i)).many by rw [u5]; exact hb), fun S3 T3 => ?_⟩
        walk_at "dl"
        refine ⟨_, H2, rfl, ?_⟩
        rw [tk hn, ups_snoc]
        exact (T2.trans T3).trans (HTr.ghost T3.rep rfl rfl)
      · rintro δ S2 ⟨z, H2, rfl, T2⟩
        have elen : (refs H lost0).length = lost0.length := by unfold refs; rw [List.length_map]
        rw [elen, List.take_length] at T2
        obtain ⟨u1, u2, u3, u4, u5, u6, u7, u8, u9, u10⟩ := ups_rest lost0 s
        have gu : Good (s.ups lost0) := G.ups fun n hn => (hlb n hn).2
        have cu : Cl (s.ups lost0) := C.congr u1 u2 (fun n h => by rw [u3]; exact h) u6 u5
        walk_at "dl"
        refine forOf (fun i δ S' => ∃ z H' si, δ = [some (.ref (H.a .hall)), some (.ref a), some (.list (refs H lost0)), z, none] ∧ HTr CT CH en H s S H' si S' ∧ Wf si ∧ AskAll ask si (lost0.drop i) s1) ⟨_, H2, _, rfl, T2, W.ups, AA⟩ ?_ ?_
        · rintro i d δ S3 hi ⟨z, H3, si, rfl, T3, W3, A3⟩
          unfold refs at hi
          rw [List.getElem?_map] at hi
          obtain ⟨n, hn, rfl⟩ := Option.map_eq_some_iff.mp hi
          have hb := hlb n (List.mem_of_getElem? hn)
          have edr : lost0.drop i = n :: lost0.drop (i + 1) := by
            obtain ⟨h1, h2⟩ := List.getElem?_eq_some_iff.mp hn
            rw [List.drop_eq_getElem_cons h1, h2]
          rw [edr] at A3
          cases A3 with
          | cons hnt ha A4 =>
            rename_i sj
            walk_at "dl"
            refine needOf (methOf (x := .non) (by rw [← T3.hall]; exact hrep_hall T3.rep) rfl) ?_
            walk_at "dl"
            refine ⟨H3, si, n, sj, by rw [T3.hall, T3.t hb.1 hb.2], T3.rep, W3, hnt, ha, fun H4 S4 T4 => ?_⟩
            walk_at "dl"
            exact ⟨_, H4, sj, rfl, T3.trans T4, KA.good.ok.wf ha W3 hnt, A4⟩
        · rintro δ S3 ⟨z, H3, si, rfl, T3, W3, A3⟩
          rw [elen, List.drop_length] at A3
          cases A3
          obtain ⟨w1, g1, c1, e1, e2, e3, e4, e5⟩ := AA.keep KA W.ups gu cu
          rw [u5] at e4
          have hlb1 : ∀ n ∈ lost0, 1 ≤ n ∧ n ≤ s1.many := fun n hn => by have := hlb n hn; omega
          walk_at "dl"
          refine forOf (fun i δ S' => ∃ z H', δ = [some (.ref (H.a .hall)), some (.ref a), some (.list (refs H lost0)), z, none] ∧ HTr CT CH en H s S H' (s1.downs (lost0.take i)) S') ⟨_, H3, rfl, T3⟩ ?_ ?_
          · rintro i d δ S4 hi ⟨z, H4, rfl, T4⟩
            unfold refs at hi
            rw [List.getElem?_map] at hi
            obtain ⟨n, hn, rfl⟩ := Option.map_eq_some_iff.mp hi
            have hb := hlb n (List.mem_of_getElem? hn)
            have hb1 : 1 ≤ n ∧ n ≤ (s1.downs (lost0.take i)).many := by rw [(downs_rest (lost0.take i) s1).2.2.2.2.1]; exact hlb1 n (List.mem_of_getElem? hn)
            have et := hrep_t T4.rep hb1.1 hb1.2
            rw [T4.t hb.1 hb.2] at et
            walk_at "dl"
            refine fldOf et th_count ?_
            walk_at "dl"
            refine fldsOf et (Nat.le_of_ble_eq_true rfl) ?_
            rw [th_count']
            have T5 := HTr.cnt T4.rep hb1.1 hb1.2 ((s1.downs (lost0.take i)).cnt n - 1)
            rw [T4.t hb.1 hb.2] at T5
            walk_at "dl"
            refine ⟨_, H4, rfl, ?_⟩
            rw [tk hn, downs_snoc]
            exact (T4.trans T5).trans (HTr.ghost T5.rep rfl rfl)
          · rintro δ S4 ⟨z, H4, rfl, T4⟩
            rw [elen, List.take_length] at T4
            obtain ⟨d1, d2, d3, d4, d5, d6, d7, d8, d9⟩ := downs_rest lost0 s1
            have wd := w1.downs (l := lost0)
            have gd : Good (s1.downs lost0) := g1.downs nd0 fun n hn => List.count_pos_iff.mp (by
              have h1 := e5 n
              rw [u9, List.count_append, ups_ends] at h1
              have h2 := heb n
              have h3 := List.count_pos_iff.mpr hn
              omega)
            have cd : Cl (s1.downs lost0) := c1.congr d1 d2 (fun n h => by rw [d3]; exact h) d6 d5
            have Ar4 := Ar.step T4 hrs
            have er : refs H lost0 = refs H4 lost0 := by
              unfold refs
              exact List.map_congr_left fun n hn => by rw [T4.t (hlb n hn).1 (hlb n hn).2]
            have hlb4 : ∀ n ∈ lost0, 1 ≤ n ∧ n ≤ (s1.downs lost0).many := fun n hn => by rw [d5]; exact hlb1 n hn
            walk_at "dl"
            refine needOf (methOf (x := .non) Ar4.ea rfl) ?_
            walk_at "dl"
            refine ⟨a, dx, l, _, rfl, Ar4.ea, Ar4.el, ?_⟩
            walk_at "dl"
            refine ⟨H4, _, lost0, by rw [T4.hall, er], T4.rep, wd, hlb4, hll, fun o S5 kp5 ho hol => ?_⟩
            have T5 := T4.trans (Kpt.tr T4.rep kp5)
            walk_at "dl"
            have ol : ((rs.map (vD H4)).length + (refs H4 o).length) ≤ 9000 := by unfold refs; rw [List.length_map, List.length_map]; omega
            refine fewOf (by omega) ?_
            have erl : rs.map (vD H4) ++ refs H4 o = (rs ++ o.map Vl.th).map (vD H4) := by unfold refs; rw [List.map_append, List.map_map]; rfl
            have hszd : Sz (s1.downs lost0) := (hszA lost0 s1 AA).parts d2 d5
            have hrs4 : ∀ v ∈ rs ++ o.map Vl.th, VOk (s1.downs lost0).many v := fun v hv => by
              rcases List.mem_append.mp hv with hv | hv
              · have h1 := hrs v hv
                cases v with
                | no d => exact h1
                | th n => have h1 : 1 ≤ n ∧ n ≤ s.many := h1; exact (show 1 ≤ n ∧ n ≤ (s1.downs lost0).many by rw [d5]; omega)
              · obtain ⟨n, hn, rfl⟩ := List.mem_map.mp hv
                exact wd.tin n ((ho n).mp hn).1
            refine ⟨H4, _, lost0, rs ++ o.map Vl.th, by rw [T4.hall, er, erl], T5.rep, wd, cd.ow, hlb4, hll, hrs4, by
              have h1 : msum (fun n => (ledP (s1.downs lost0) n).length + 1) (s1.downs lost0).many ≤ 80000 := hszd
              have h2 : (rs ++ o.map Vl.th).length ≤ 9000 := by rw [List.length_append, List.length_map]; unfold refs at ol; rw [List.length_map, List.length_map] at ol; exact ol
              omega, fun p S6 kp6 hpp => ?_⟩
            have hmem : ∀ n, Vl.th n ∈ rs ++ o.map Vl.th ↔ Vl.th n ∈ rs ++ (others (s1.downs lost0) lost0).map Vl.th := fun n => by
              rw [List.mem_append, List.mem_append]
              refine or_congr Iff.rfl ?_
              rw [List.mem_map, List.mem_map]
              have hh : ∀ n, n ∈ o ↔ n ∈ others (s1.downs lost0) lost0 := fun n => by
                unfold others
                rw [ho, List.mem_filter, decide_eq_true_iff]
              exact ⟨fun ⟨m, h1, h2⟩ => ⟨m, (hh m).mp h1, h2⟩, fun ⟨m, h1, h2⟩ => ⟨m, (hh m).mpr h1, h2⟩⟩
            have el1 : lost0.filter p = lost := lost_uniq (s := s1.downs lost0) (base := (· ∈ lost0)) (rs := rs ++ (others (s1.downs lost0) lost0).map Vl.th) ⟨L0.srt.filter p, fun n => by
              rw [List.mem_filter, hpp]
              exact and_congr Iff.rfl (not_congr ⟨fun h => h.mono (fun n => (hmem n).mp) fun _ _ h => h, fun h => h.mono (fun n => (hmem n).mpr) fun _ _ h => h⟩)⟩ L1
            rw [el1]
            have T6 := T5.trans (Kpt.tr T5.rep kp6)
            have hl1 : ∀ n ∈ lost, n ∈ lost0 := fun n hn => ((L1.mem n).mp hn).1
            have nd1 : lost.Nodup := L1.srt.imp fun h e => by omega
            walk_at "dl"
            refine needOf (methOf (x := .non) (by rw [← T6.hall]; exact hrep_hall T6.rep) rfl) ?_
            walk_at "dl"
            refine ⟨H4, _, lost, f, s', by rw [T6.hall], T6.rep, wd, gd, by rw [d4, e3, u4]; exact r0, nd1, fun n hn => by rw [d1]; exact ht n (hl1 n hn), W1, fun H7 S7 T7 => ?_⟩
            have T8 := T6.trans T7
            have em : s.many ≤ s'.many := T8.many
            walk_at "dl"
            refine lcNOf (fun i acc => acc = (lost.take i).map fun n : Nat => .int (n : Int)) (by unfold refs; rw [List.length_map]; have h1 := perm_len nd1 fun n hn => hlb n (hl1 n hn); have h2 := W.most; omega) rfl ?_ ?_
            · rintro pl hpl i d acc hi rfl
              unfold refs at hi
              rw [List.getElem?_map] at hi
              obtain ⟨n, hn, rfl⟩ := Option.map_eq_some_iff.mp hi
              have hb := hlb n (hl1 n (List.mem_of_getElem? hn))
              have kp9 : Kpt S7 (put S7 pl (.lst ((lost.take i).map fun n : Nat => .int (n : Int)))) := Kpt.refl.put hpl _
              have et := hrep_t (Kpt.tr T8.rep kp9).rep (n := n) hb.1 (by omega)
              rw [T8.t hb.1 hb.2] at et
              rw [T6.t hb.1 hb.2]
              walk_at "dl"
              refine fldOf et th_number ?_
              refine LcO.of hpl ?_
              rw [List.take_add_one, hn, List.map_append]
              rfl
            · rintro acc pv hpv rfl
              unfold refs
              rw [List.length_map, List.take_length]
              exact h H7 S7 pv T8 hpv
end
end K

set_option Elab.async false
set_option linter.all false
set_option maxRecDepth 100000
namespace HM
open PySem L2 DL
def lft (s : Hs) (near : List Nat) : Nat := (s.there.filter fun n => decide (n ∉ near)).length
theorem lft_app {s : Hs} {near : List Nat} {j : Nat} (nd : s.there.Nodup) (hj : j ∈ s.there) (hn : j ∉ near) : lft s (near ++ [j]) + 1 = lft s near := by
  unfold lft
  generalize s.there = l at nd hj
  induction l with
  | nil => cases hj
  | cons a l ih =>
    rw [List.nodup_cons] at nd
    rw [List.filter_cons, List.filter_cons]
    by_cases z : a = j
    · subst z
      rw [if_neg (by simp), if_pos (by simpa using hn), List.length_cons]
      congr 2
      refine List.filter_congr fun i hi => ?_
      have : i ≠ a := fun e => nd.1 (e ▸ hi)
      rw [decide_eq_decide]
      simp [this]
    · have hj' := (List.mem_cons.mp hj).resolve_left (Ne.symm z)
      have := ih nd.2 hj'
      by_cases y : a ∈ near
      · rw [if_neg (by simp [y]), if_neg (by simp [y])]
        exact this
      · rw [if_pos (by simp [y, z]), if_pos (by simp [y]), List.length_cons, List.length_cons]
        omega
structure NrI (s : Hs) (vs : List Vl) (near0 near : List Nat) (flag : Bool) : Prop where
  snd : ∀ n ∈ near, n ∈ s.there ∧ Rch (ledP s) vs n
  sub : ∀ n ∈ near0, n ∈ near
  len : near.length + lft s near ≤ vs.length + s.there.length
  flg : flag = false → near = near0
  dec : flag = true → lft s near < lft s near0
  le : lft s near ≤ lft s near0
theorem NrI.add {s : Hs} {vs : List Vl} {near0 near : List Nat} {flag : Bool} (I : NrI s vs near0 near flag) (W : Wf s) (C : Cl s) {n j : Nat} (hn : n ∈ near) (hc : Vl.th j ∈ ledP s n) (hj : j ∉ near) : NrI s vs near0 (near ++ [j]) true := by
  obtain ⟨h1, h2⟩ := I.snd n hn
  obtain ⟨kv, hk, e⟩ := List.mem_map.mp hc
  have hjt := C.cl n h1 kv hk j e
  have hl := lft_app W.nd hjt hj
  refine ⟨fun i hi => ?_, fun i hi => List.mem_append_left _ (I.sub i hi), ?_, nofun, fun _ => ?_, ?_⟩
  · rcases List.mem_append.mp hi with hi | hi
    · exact I.snd i hi
    · rw [List.mem_singleton.mp hi]; exact ⟨hjt, .step h2 hc⟩
  · rw [List.length_append, List.length_singleton]
    have := I.len
    omega
  · have := I.le
    omega
  · have := I.le
    omega
end HM
namespace K
open PySem L2 Evl EX DL HM
abbrev s__law_near : Stmt := top 24
abbrev N__law_near : List Str := ["_law_m", "_law_values_here", "_law_near_here", "_law_grown", "_law_n", "_law_key_here", "_law_value_here"]
theorem sc__law_near : FnScope N__law_near ["_law_m", "_law_values_here"] (defScope s__law_near) := ⟨rfl, rfl, rfl, by decide +kernel, rfl, by decide +kernel, by decide +kernel⟩
abbrev s__law_swept : Stmt := top 25
abbrev N__law_swept : List Str := ["_law_m", "_law_values_here", "_law_near_here", "_law_lost", "_law_n", "_law_others"]
theorem sc__law_swept : FnScope N__law_swept ["_law_m", "_law_values_here"] (defScope s__law_swept) := ⟨rfl, rfl, rfl, by decide +kernel, rfl, by decide +kernel, by decide +kernel⟩
abbrev s__law_values : Stmt := top 36
abbrev N__law_values : List Str := ["_law_well_here", "_law_m", "_law_n", "_law_k"]
theorem sc__law_values : FnScope N__law_values ["_law_well_here", "_law_m"] (defScope s__law_values) := ⟨rfl, rfl, rfl, by decide +kernel, rfl, by decide +kernel, by decide +kernel⟩
section
variable {P : Program} {w : World} {K : PySem.W.Frag} {mg : Str → Option Value} {base : Heap} {CT CH CD : Addr} {en : D}
local macro_rules | `(tactic| walk_at "dl") => `(tactic| try simp only [↓x_lcN, ↓x_lcSN, ↓x_catM, ↓x_catMN, ↓x_neV, ↓x_sortSet, ↓x_sortDLN, ↓x_lrg, ↓x_neg, ↓x_lcS, ↓x_lockE, ↓x_eqA, ↓x_dictD, ↓x_disp, ↓x_pNil, ↓x_pCons, ↓x_forS, ↓x_diSL, ↓x_diKeys, ↓x_lock, ↓x_dictP, ↓x_fld, ↓x_fldS, ↓x_fldA, ↓x_meth, ↓x_make, ↓x_dget, ↓x_din, ↓x_dget1, ↓x_dget2, ↓x_dpop, ↓x_dput, ↓x_listD, ↓x_sortDI, ↓x_lenD, ↓x_isiC, x_icS, x_icI, x_icB, x_icN, x_ioS, x_ioI, x_ioB, x_ioN, ↓x_gSub, ↓x_sortDL, ↓x_eqO, ↓x_ninA, x_catN, x_isBB, x_isBN, x_isBI, x_isBS, x_isBR, ↓x_seq, ↓x_nx, ↓x_pass, ↓x_brk, ↓x_cnt, ↓x_drop, ↓x_ret, ↓x_retN, ↓x_ifS, ↓x_set, ↓x_asg, ↓x_gN, ↓x_gT, ↓x_gsC, ↓x_gsN, ↓x_var, x_rdv, ↓x_c, ↓x_op, ↓x_test, x_tst, ↓x_and, ↓x_or, ↓x_not, ↓x_andV, ↓x_orV, ↓x_notV, x_tstV, ↓x_ifE, x_true, x_false, ↓x_nil, ↓x_cons, ↓x_tup, ↓x_lst, ↓x_new, ↓x_newD, ↓x_call, ↓x_cb, x_oI, x_oIc, x_oS, x_addS, x_isN, x_notN, x_eqI, x_eqS, x_eqIS, x_eqSI, x_eqNS, x_neI, x_neS, x_neB, x_eqB, x_few, x_need, ↓x_ix, x_lenS, x_ixL0, x_ixT0, x_ixT1, x_ixT2, x_ixT3, x_ixT4, x_lenL, x_lenT, x_lenC, x_listL, x_listT, x_tupL, x_tupT, x_strI, x_strS, x_int1, x_intB, x_I1, x_I2, x_cat, x_catT, ↓x_split, ↓x_for, ↓x_cut, ↓x_lc, ↓x_whl, ↓x_diL, ↓x_diT, ↓x_diS, x_itL, x_itC, x_itT, x_itS, ↓x_diR1, ↓x_diR2, ↓x_diE, x_enmL, x_enmC, ↓x_gcN, ↓x_gcT, ↓x_yes, ↓x_ml, ↓x_ms, x_strq, x_ss, x_ssc, x_ssi, ↓x_join, ↓x_aug, x_st2I, ↓x_sl, ↓x_noP, ↓x_part, x_intq, x_slL, x_slC, x_slS, ↓x_in, x_inT, x_inL, x_ninT, x_ninL, x_inN, x_inSS, x_inSI, x_inIS, x_inII, ↓x_sg, x_sgS, x_nsgS, ↓x_eqD, ↓x_inDD, x_mulS, ↓x_isi, x_isiS, x_isiI, x_isiB, x_isiN, x_isiL, x_isiT, ↓x_isTT, x_itI, x_itStr, x_itN, x_itB, x_itLst, x_itTup, ↓x_any, ↓x_all, ↓x_sum, ↓x_srtI, ↓x_srtS, ↓x_intS, ↓x_lenRf, ↓x_tupRf, ↓x_frz', x_flS, x_flI, x_flN, x_flB, x_cs_bool, x_isB_NoneType_bool, x_isB_bool_bool, x_isB_int_bool, x_isB_str_bool, x_isB_list_bool, x_isB_tuple_bool, x_isB_dict_bool, x_cs_int, x_isB_NoneType_int, x_isB_bool_int, x_isB_int_int, x_isB_str_int, x_isB_list_int, x_isB_tuple_int, x_isB_dict_int, x_cs_str, x_isB_NoneType_str, x_isB_bool_str, x_isB_int_str, x_isB_str_str, x_isB_list_str, x_isB_tuple_str, x_isB_dict_str, x_cs_list, x_isB_NoneType_list, x_isB_bool_list, x_isB_int_list, x_isB_str_list, x_isB_list_list, x_isB_tuple_list, x_isB_dict_list, x_cs_tuple, x_isB_NoneType_tuple, x_isB_bool_tuple, x_isB_int_tuple, x_isB_str_tuple, x_isB_list_tuple, x_isB_tuple_tuple, x_isB_dict_tuple, x_cs_dict, x_isB_NoneType_dict, x_isB_bool_dict, x_isB_int_dict, x_isB_str_dict, x_isB_list_dict, x_isB_tuple_dict, x_isB_dict_dict, List.all_cons, List.all_nil, Bool.and_self, Bool.or_false, Bool.or_true, Bool.false_or, Bool.true_or, wipeD, setD, DL.isNon, List.set_cons_zero, List.set_cons_succ, List.getElem?_cons_zero, List.getElem?_cons_succ, List.length_cons, List.length_nil, Nat.zero_add, List.cons_append, List.nil_append, decide_true, decide_false, Bool.not_true, Bool.not_false, true_and, and_true, startD, List.map_cons, List.map_nil, Nat.reduceSub, Nat.reduceLeDiff, Nat.zero_le, Int.reduceLT, Int.reduceLE, and_self, Nat.reduceAdd, List.replicate])
def dNear (x : Mx) : SpD := fun ds S k _ => ∃ (M : ML → Addr) (s : Hs) (vs : List Vl), ds = [.ref (M .m), .list (vs.map vM)] ∧ MRep M x s S ∧ Wf s ∧ Cl s ∧ (∀ n, n ∈ s.there → (s.parts n).length ≤ 5000) ∧ s.rest = [] ∧ (∀ v ∈ vs, VOk s.many v) ∧ vs.length ≤ 9000 ∧
  ∀ (ns : List Nat) S', Kpt S S' → (∀ n, n ∈ ns ↔ n ∈ s.there ∧ Rch (ledP s) vs n) → ns.length ≤ 14000 → k (.list (nD ns)) S'
theorem ok_near {x : Mx} {fa : Addr} {fd : FuncData} (F : Fun K "_law_near" "_law_near" s__law_near fa fd) (T : Txt K mg CT CH) : FnOk P w K mg base CX0 1 fa fd ["_law_m", "_law_values_here"] (lSp K (dNear x)) := by
  refine dok F sc__law_near (fun ds S q qx ⟨M, s, vs, h, _⟩ => by rw [h]; rfl) ⟨_, fun cdv A outer s H E hr => dss_cons (ds_setLcN (i := 2) (own := [("_law_value_here", 6)]) (gc_name (j := 6) (by decide)) rfl sc__law_near.nd rfl rfl (sw_true rfl rfl rfl (by decide +kernel)) (di_list (K := K) (de_var 1)) (blkOk_by (N := N__law_near) (sc := defScope s__law_near) (by decide +kernel)) (fun _ _ _ _ _ => pg_name (i := 6) sc__law_near.nd rfl (Or.inl rfl)) (fun _ _ _ _ _ => dts_one (PW.pt (dw_and (dt_val (de_callB (clIsi' (K := K)) si_isi (by rfl) T.isinstance (by decide +kernel) (da_cons (de_var 6) (da_cons (de_blt (n := "tuple") (by rfl) T.tuple (by decide +kernel)) da_nil)))) (dw_and1 (dt_din (hu_of hr) (de_ix ix_seq (si_ix rfl) (de_var 6) (de_int) (fun _ _ => rfl)) (de_dget (hu_of hr) (de_var 0) (de_str) (fun _ _ => rfl))))))) (fun _ _ _ _ _ => de_ix ix_seq (si_ix rfl) (de_var 6) (de_int) (fun _ _ => rfl)))
      (dss_cons (ds_set (i := 3) sc__law_near.nd rfl (Or.inl rfl) (de_bl))
      (dss_cons (ds_while PassesOwn.never (dt_val (de_var 3))
        (dss_cons (ds_set (i := 3) sc__law_near.nd rfl (Or.inl rfl) (de_bl))
        (dss_one (ds_for PassesOwn.never rfl (di_list (K := K) (de_callTy (clList (K := K)) si_list (by rfl) T.list (by decide +kernel) (da_cons (de_var 2) da_nil))) (dg_name (i := 4) sc__law_near.nd rfl (Or.inl rfl))
          (dss_one (ds_forS PassesOwn.never rfl (di_stl (K := K) (de_dget (hu_of hr) (de_dget (hu_of hr) (de_var 0) (de_str) (fun _ _ => rfl)) (de_var 4) (fun _ _ => rfl))) (dg_tup (n := 2) rfl (dgs_cons (dg_name (i := 5) sc__law_near.nd rfl (Or.inl rfl)) (dgs_cons (dg_name (i := 6) sc__law_near.nd rfl (Or.inl rfl)) dgs_nil)))
            (dss_one (ds_if (PW.pt (dw_and (dt_val (de_callB (clIsi' (K := K)) si_isi (by rfl) T.isinstance (by decide +kernel) (da_cons (de_var 6) (da_cons (de_blt (n := "tuple") (by rfl) T.tuple (by decide +kernel)) da_nil)))) (dw_and1 (dt_cmp (opNin (K := K)) (si_in true) (de_ix ix_seq (si_ix rfl) (de_var 6) (de_int) (fun _ _ => rfl)) (de_var 2) (by rfl)))))
              (dss_cons (ds_expr (de_ml PySem.F.slot_list_append PySem.F.type_list_append mt_append si_app (de_var 2) (da_cons (de_ix ix_seq (si_ix rfl) (de_var 6) (de_int) (fun _ _ => rfl)) da_nil)))
              (dss_one (ds_set (i := 3) sc__law_near.nd rfl (Or.inl rfl) (de_bl))))
              (dss_nil)))))))))
      (dss_one (ds_ret (de_frz 2))))), fun ds S q qx ⟨M, s, vs, hd, R, W, C, hpl, hrest, hvs, hvl, h⟩ => ?_⟩
  subst hd
  walk_at "dl"
  refine lcNOf (fun i acc => ∃ r0 : List Nat, acc = nD r0 ∧ r0.length ≤ i ∧ ∀ n, n ∈ r0 ↔ Vl.th n ∈ vs.take i ∧ n ∈ s.there) (by rw [List.length_map]; omega) ⟨[], rfl, Nat.le_refl _, fun n => by simp⟩ ?_ ?_
  · rintro pl hpl i d acc hi ⟨r0, rfl, hr0, hr1⟩
    rw [List.getElem?_map] at hi
    obtain ⟨v, hv, rfl⟩ := Option.map_eq_some_iff.mp hi
    have hmp := (put_ne (o := .lst (nD r0)) (sto_ne (m_m R) hpl)).trans (m_m R)
    have hpp := (put_ne (o := .lst (nD r0)) (sto_ne (m_parts R) hpl)).trans (m_parts R)
    have etk : vs.take (i + 1) = vs.take i ++ [v] := by rw [List.take_add_one, hv]; rfl
    walk_at "dl"
    cases v with
    | no d =>
      refine isi_no (hvs _ (List.mem_of_getElem? hv)) ?_
      walk_at "dl"
      refine LcO.of hpl ⟨r0, rfl, by omega, fun n => ?_⟩
      rw [hr1, etk, List.mem_append]
      simp
    | th j =>
      simp only [vM]
      walk_at "dl"
      refine dgetOf hmp rfl mg_parts ?_
      walk_at "dl"
      refine dinOf hpp rfl ?_
      rw [plD_isSome]
      walk_at "dl"
      refine br (fun hb => ?_) (fun hb => ?_)
      · have hb := of_decide_eq_true hb
        walk_at "dl"
        refine LcO.of hpl ⟨r0 ++ [j], by unfold nD; rw [List.map_append]; rfl, by rw [List.length_append]; exact Nat.succ_le_succ hr0, fun n => ?_⟩
        rw [List.mem_append, hr1, etk, List.mem_append, List.mem_singleton, List.mem_singleton, Vl.th.injEq]
        exact ⟨fun z => z.elim (fun z => ⟨.inl z.1, z.2⟩) fun z => ⟨.inr z, z ▸ hb⟩, fun z => z.1.elim (fun y => .inl ⟨y, z.2⟩) .inr⟩
      · have hb := of_decide_eq_false hb
        refine LcO.of hpl ⟨r0, rfl, by omega, fun n => ?_⟩
        rw [hr1, etk, List.mem_append, List.mem_singleton, Vl.th.injEq]
        exact ⟨fun z => ⟨.inl z.1, z.2⟩, fun z => z.1.elim (fun y => ⟨y, z.2⟩) fun y => absurd (y ▸ z.2) hb⟩
  · rintro acc pn hpn ⟨r0, rfl, hr0, hr1⟩
    rw [List.length_map] at hr0 hr1
    rw [List.take_length] at hr1
    have kp0 : Kpt S (put S pn (.lst (nD r0))) := Kpt.refl.put hpn _
    have e0 : put S pn (.lst (nD r0)) pn = some (.lst (nD r0)) := put_same
    generalize put S pn (.lst (nD r0)) = S1 at kp0 e0
    have htl : s.there.length ≤ 5000 := by have := W.len; have := W.most; omega
    have l0 : lft s r0 ≤ s.there.length := List.length_filter_le ..
    walk_at "dl"
    refine whlOf (fun μ δ S' => ∃ near flag z4 z5 z6, δ = [some (.ref (M .m)), some (.list (vs.map vM)), some (.ref pn), some (.bl flag), z4, z5, z6] ∧ Kpt S S' ∧ S' pn = some (.lst (nD near)) ∧ (∀ n ∈ near, n ∈ s.there ∧ Rch (ledP s) vs n) ∧ (∀ n, Vl.th n ∈ vs → n ∈ s.there → n ∈ near) ∧ near.length + lft s near ≤ vs.length + s.there.length ∧
        (flag = false → ∀ k ∈ near, ∀ j, Vl.th j ∈ ledP s k → j ∈ near) ∧ μ = if flag = true then lft s near + 1 else 0)
      _ ⟨r0, true, _, _, _, rfl, kp0, e0, fun n hn => ⟨((hr1 n).mp hn).2, .root ((hr1 n).mp hn).1⟩, fun n h1 h2 => (hr1 n).mpr ⟨h1, h2⟩, by omega, (by intro z; cases z), rfl⟩ ?_
    rintro μ δ S' ⟨near, flag, z4, z5, z6, rfl, kp, en, hsnd, hrt, hlen, hfl, rfl⟩
    walk_at "dl"
    cases flag with
    | true =>
      walk_at "dl"
      refine ⟨nD near, en, ?_⟩
      walk_at "dl"
      refine forOf (fun i δ S2 => ∃ near2 flag2 z4 z5 z6, δ = [some (.ref (M .m)), some (.list (vs.map vM)), some (.ref pn), some (.bl flag2), z4, z5, z6] ∧ Kpt S S2 ∧ S2 pn = some (.lst (nD near2)) ∧ NrI s vs near near2 flag2 ∧ (flag2 = false → ∀ k ∈ near.take i, ∀ j, Vl.th j ∈ ledP s k → j ∈ near2))
        ⟨near, false, _, _, _, rfl, kp, en, ⟨hsnd, fun _ h => h, hlen, fun _ => rfl, nofun, Nat.le_refl _⟩, fun _ k hk => by simp at hk⟩ ?_ ?_
      · rintro i d δ S2 hi ⟨near2, flag2, y4, y5, y6, rfl, kp2, en2, I, hcl⟩
        unfold nD at hi
        rw [List.getElem?_map] at hi
        obtain ⟨n, hn, rfl⟩ := Option.map_eq_some_iff.mp hi
        have hnn := List.mem_of_getElem? hn
        have hnt := (hsnd n hnn).1
        have epl := kp2.at (m_pl R (.inl hnt))
        walk_at "dl"
        refine dgetOf (kp2.at (m_m R)) rfl mg_parts ?_
        walk_at "dl"
        refine dgetOf (kp2.at (m_parts R)) rfl (plD_get hnt) ?_
        walk_at "dl"
        refine slOf epl ?_
        refine forSOf (fun j δ S3 => ∃ near3 flag3 z5 z6, δ = [some (.ref (M .m)), some (.list (vs.map vM)), some (.ref pn), some (.bl flag3), some (.int (n : Int)), z5, z6] ∧ Kpt S S3 ∧ S3 pn = some (.lst (nD near3)) ∧ NrI s vs near near3 flag3 ∧ (flag3 = false → (∀ k ∈ near.take i, ∀ j, Vl.th j ∈ ledP s k → j ∈ near3) ∧ ∀ kv ∈ (s.parts n).take j, ∀ j', kv.2 = .th j' → j' ∈ near3))
          ⟨near2, flag2, _, _, rfl, kp2, en2, I, fun hf => ⟨hcl hf, fun kv hk => by simp at hk⟩⟩ epl ?_ ?_
        · rintro j e δ S3 hj ep3 ⟨near3, flag3, y5, y6, rfl, kp3, en3, I3, hcl3⟩
          rw [List.getElem?_map] at hj
          obtain ⟨kv, hkv, rfl⟩ := Option.map_eq_some_iff.mp hj
          have hkm := List.mem_of_getElem? hkv
          have etk : (s.parts n).take (j + 1) = (s.parts n).take j ++ [kv] := by rw [List.take_add_one, hkv]; rfl
          have pass : ∀ z5 z6 : Option D, (∀ j', kv.2 = .th j' → j' ∈ near3) → ∃ near4 flag4 w5 w6, ([some (.ref (M .m)), some (.list (vs.map vM)), some (.ref pn), some (.bl flag3), some (.int (n : Int)), z5, z6] : Dst) = [some (.ref (M .m)), some (.list (vs.map vM)), some (.ref pn), some (.bl flag4), some (.int (n : Int)), w5, w6] ∧ Kpt S S3 ∧ S3 pn = some (.lst (nD near4)) ∧ NrI s vs near near4 flag4 ∧ (flag4 = false → (∀ k ∈ near.take i, ∀ j, Vl.th j ∈ ledP s k → j ∈ near4) ∧ ∀ kv ∈ (s.parts n).take (j + 1), ∀ j', kv.2 = .th j' → j' ∈ near4) := fun z5 z6 hz =>
            ⟨near3, flag3, _, _, rfl, kp3, en3, I3, fun hf => ⟨(hcl3 hf).1, fun kv' hk' => by
              rw [etk] at hk'
              rcases List.mem_append.mp hk' with hk' | hk'
              · exact (hcl3 hf).2 kv' hk'
              · rw [List.mem_singleton.mp hk']; exact hz⟩⟩
          unfold pM
          walk_at "dl"
          cases ev : kv.2 with
          | no d =>
            have hno := W.pv n kv hkm
            rw [ev] at hno
            refine isi_no hno ?_
            walk_at "dl"
            exact ⟨ep3, pass _ _ fun j' z => by rw [ev] at z; cases z⟩
          | th c =>
            simp only [vM]
            walk_at "dl"
            rw [x_ninR en3 rfl (flat_nats _), inD_nats]
            walk_at "dl"
            refine br (fun hb => ?_) (fun hb => ?_)
            · have hc : c ∉ near3 := fun z => by rw [decide_eq_true z] at hb; cases hb
              walk_at "dl"
              refine needOf (isLOf en3) ?_
              walk_at "dl"
              refine appOf en3 (by unfold nD; rw [List.length_map]; have := I3.len; omega) ?_
              walk_at "dl"
              have npl : M (.pl n) ≠ pn := fun z => by
                have := R.live (l := .pl n) (by rw [pl_live (.inl hnt)]; exact nofun)
                rw [z] at this
                exact this hpn
              refine ⟨(put_ne npl).trans ep3, near3 ++ [c], true, _, _, rfl, kp3.put hpn _, by rw [put_same]; unfold nD; rw [List.map_append]; rfl, I3.add W C (I3.sub n hnn) (List.mem_map.mpr ⟨kv, hkm, ev⟩) hc, nofun⟩
            · have hc : c ∈ near3 := by
                rw [Bool.not_eq_false'] at hb
                exact of_decide_eq_true hb
              walk_at "dl"
              exact ⟨ep3, pass _ _ fun j' z => by rw [ev] at z; cases z; exact hc⟩
        · rintro δ S3 ep3 ⟨near3, flag3, y5, y6, rfl, kp3, en3, I3, hcl3⟩
          rw [List.length_map, List.take_length] at hcl3
          walk_at "dl"
          refine ⟨near3, flag3, _, _, _, rfl, kp3, en3, I3, fun hf k hk j hj => ?_⟩
          rw [List.take_add_one, hn] at hk
          rcases List.mem_append.mp hk with hk | hk
          · exact (hcl3 hf).1 k hk j hj
          · rw [Option.toList_some] at hk
            rw [List.mem_singleton.mp hk] at hj
            obtain ⟨kv, h1, h2⟩ := List.mem_map.mp hj
            exact (hcl3 hf).2 kv h1 j h2
      · rintro δ S2 ⟨near2, flag2, y4, y5, y6, rfl, kp2, en2, I, hcl⟩
        unfold nD at hcl
        rw [List.length_map, List.take_length] at hcl
        walk_at "dl"
        refine ⟨if flag2 = true then lft s near2 + 1 else 0, ?_, near2, flag2, _, _, _, rfl, kp2, en2, I.snd, fun n h1 h2 => I.sub n (hrt n h1 h2), I.len, fun hf => ?_, rfl⟩
        · rw [if_pos trivial]
          split
          · rename_i hf
            have := I.dec hf
            omega
          · omega
        · have := hcl hf
          rw [I.flg hf] at this ⊢
          exact this
    | false =>
      walk_at "dl"
      have hcl := hfl rfl
      refine frzOf en (h near _ ?_ (fun n => ⟨fun hn => hsnd n hn, fun ⟨h1, h2⟩ => ?_⟩) (by omega))
      · intro b hb
        have hne : b ≠ pn := fun z => hb (by rw [z]; exact hpn)
        exact (if_neg hne).trans (kp b hb)
      · have key : ∀ n, Rch (ledP s) vs n → n ∈ s.there → n ∈ near := by
          intro n h
          induction h with
          | root h => exact fun ht => hrt _ h ht
          | @step m n h h3 ih =>
            intro ht
            by_cases z : m ∈ s.there
            · exact hcl m (ih z) n h3
            · obtain ⟨kv, h4, _⟩ := List.mem_map.mp h3
              rw [C.gp m z (by rw [hrest]; exact nofun)] at h4
              cases h4
        exact key n h2 h1
end
end K

set_option Elab.async false
set_option linter.all false
set_option maxRecDepth 100000
namespace HM
open PySem L2 DL
section
variable {M : ML → Addr} {x : Mx} {s : Hs} {S : Sto}
/-- a list of the law's own is another one from now on -/
theorem MTr.renew (R : MRep M x s S) {l0 : ML} {s' : Hs} {p : Addr} {o : O} (hp : S p = none) (hl0 : l0 ≠ .m) (h0 : mC M x s l0 ≠ none) (h1 : mC (fun y => if y = l0 then p else M y) x s' l0 = some o)
    (h2 : ∀ l, l ≠ l0 → l ≠ .m → mC (fun y => if y = l0 then p else M y) x s' l = mC M x s l) {kvs : List (Key × D)} (h3 : mC (fun y => if y = l0 then p else M y) x s' .m = some (.dct kvs)) :
    MTr M x s S (fun y => if y = l0 then p else M y) x s' (put (put S p o) (M .m) (.dct kvs)) := by
  have T1 : Tr (fun l => l = ML.m) M (mC M x s) S M (fun l => if l = l0 then none else mC M x s l) S := Rep.sub R fun l o h => by
    by_cases z : l = l0
    · rw [if_pos z] at h; cases h
    · rw [if_neg z] at h; exact h
  have T2 : Tr (fun l => l = ML.m) M (fun l => if l = l0 then none else mC M x s l) S (fun y => if y = l0 then p else M y) (fun l => if l = l0 then some o else mC M x s l) (put S p o) :=
    T1.rep.new (l := l0) hp (if_pos rfl) (if_pos rfl) (fun l' h => if_neg fun z => h (if_pos z)) (if_pos rfl) fun l' h => by rw [if_neg h, if_neg h]
  have e1 : (if ML.m = l0 then p else M .m) = M .m := if_neg (Ne.symm hl0)
  have T3 := T2.rep.set (pin := fun l => l = ML.m) (l := .m) (o := .dct (mKvs M x s.many (rowM M s.row) s.lasts)) (C' := mC (fun y => if y = l0 then p else M y) x s') (o' := .dct kvs) (by rw [if_neg (Ne.symm hl0)]; rfl) h3 fun l' hl => by
    by_cases z : l' = l0
    · subst z; rw [if_pos rfl]; exact h1
    · rw [if_neg z]; exact h2 l' z hl
  rw [e1] at T3
  exact (T1.trans T2 fun l hl h => by subst hl; rw [if_neg (Ne.symm hl0)]; exact nofun).trans T3 fun l hl h => by subst hl; show (if ML.m = l0 then _ else _) ≠ none; rw [if_neg (Ne.symm hl0)]; exact nofun
theorem MTr.outerNew (R : MRep M x s S) {p : Addr} (hp : S p = none) (l : List Nat) (c : Nat → Int) : MTr M x s S (fun y => if y = .outer then p else M y) x { s with outer := l, cnt := c } (put (put S p (.lst (nD l))) (M .m) (.dct (gput (mKvs M x s.many (rowM M s.row) s.lasts) (.inr "outer") (.ref p)))) := by
  refine MTr.renew (l0 := .outer) (o := .lst (nD l)) (s' := { s with outer := l, cnt := c }) R hp nofun nofun rfl (fun l' h1 h2 => ?_) ?_
  · cases l' with
    | outer => exact absurd rfl h1
    | m => exact absurd rfl h2
    | _ => rfl
  · show some (O.dct (mKvs _ x s.many (rowM _ s.row) s.lasts)) = _
    cases s.row <;> rfl
theorem MTr.mineNew (R : MRep M x s S) {p : Addr} (hp : S p = none) (l : List Nat) : MTr M x s S (fun y => if y = .mine then p else M y) x { s with mine := l } (put (put S p (.lst (nD l))) (M .m) (.dct (gput (mKvs M x s.many (rowM M s.row) s.lasts) (.inr "mine") (.ref p)))) := by
  refine MTr.renew (l0 := .mine) (o := .lst (nD l)) (s' := { s with mine := l }) R hp nofun nofun rfl (fun l' h1 h2 => ?_) ?_
  · cases l' with
    | mine => exact absurd rfl h1
    | m => exact absurd rfl h2
    | _ => rfl
  · show some (O.dct (mKvs _ x s.many (rowM _ s.row) s.lasts)) = _
    cases s.row <;> rfl
end
theorem ups_eq : ∀ (l : List Nat) (s : Hs), s.ups l = { s with outer := s.outer ++ l, cnt := (s.ups l).cnt }
  | [], s => by rw [List.append_nil]; rfl
  | n :: l, s => by
    have := ups_eq l (s.up n)
    show (s.up n).ups l = _
    rw [this]
    show _ = ({ s with outer := s.outer ++ n :: l, cnt := ((s.up n).ups l).cnt } : Hs)
    unfold Hs.up
    simp only [List.append_assoc, List.singleton_append]
theorem empts_asked : ∀ (l : List Nat) (s : Hs), (s.empts l).asked = s.asked
  | [], _ => rfl
  | n :: l, s => by
    show (((s.emptied n (s.parts n)).bare n).empts l).asked = _
    rw [empts_asked l]
    exact (_root_.K.emptied_outer (n := n) (s.parts n) s).2
end HM
namespace K
open PySem L2 Evl EX DL HM
section
variable {P : Program} {w : World} {K : PySem.W.Frag} {mg : Str → Option Value} {base : Heap} {CT CH CD : Addr} {en : D}
local macro_rules | `(tactic| walk_at "dl") => `(tactic| try simp only [↓x_lcN, ↓x_lcSN, ↓x_catM, ↓x_catMN, ↓x_neV, ↓x_sortSet, ↓x_sortDLN, ↓x_lrg, ↓x_neg, ↓x_lcS, ↓x_lockE, ↓x_eqA, ↓x_dictD, ↓x_disp, ↓x_pNil, ↓x_pCons, ↓x_forS, ↓x_diSL, ↓x_diKeys, ↓x_lock, ↓x_dictP, ↓x_fld, ↓x_fldS, ↓x_fldA, ↓x_meth, ↓x_make, ↓x_dget, ↓x_din, ↓x_dget1, ↓x_dget2, ↓x_dpop, ↓x_dput, ↓x_listD, ↓x_sortDI, ↓x_lenD, ↓x_isiC, x_icS, x_icI, x_icB, x_icN, x_ioS, x_ioI, x_ioB, x_ioN, ↓x_gSub, ↓x_sortDL, ↓x_eqO, ↓x_ninA, x_catN, x_isBB, x_isBN, x_isBI, x_isBS, x_isBR, ↓x_seq, ↓x_nx, ↓x_pass, ↓x_brk, ↓x_cnt, ↓x_drop, ↓x_ret, ↓x_retN, ↓x_ifS, ↓x_set, ↓x_asg, ↓x_gN, ↓x_gT, ↓x_gsC, ↓x_gsN, ↓x_var, x_rdv, ↓x_c, ↓x_op, ↓x_test, x_tst, ↓x_and, ↓x_or, ↓x_not, ↓x_andV, ↓x_orV, ↓x_notV, x_tstV, ↓x_ifE, x_true, x_false, ↓x_nil, ↓x_cons, ↓x_tup, ↓x_lst, ↓x_new, ↓x_newD, ↓x_call, ↓x_cb, x_oI, x_oIc, x_oS, x_addS, x_isN, x_notN, x_eqI, x_eqS, x_eqIS, x_eqSI, x_eqNS, x_neI, x_neS, x_neB, x_eqB, x_few, x_need, ↓x_ix, x_lenS, x_ixL0, x_ixT0, x_ixT1, x_ixT2, x_ixT3, x_ixT4, x_lenL, x_lenT, x_lenC, x_listL, x_listT, x_tupL, x_tupT, x_strI, x_strS, x_int1, x_intB, x_I1, x_I2, x_cat, x_catT, ↓x_split, ↓x_for, ↓x_cut, ↓x_lc, ↓x_whl, ↓x_diL, ↓x_diT, ↓x_diS, x_itL, x_itC, x_itT, x_itS, ↓x_diR1, ↓x_diR2, ↓x_diE, x_enmL, x_enmC, ↓x_gcN, ↓x_gcT, ↓x_yes, ↓x_ml, ↓x_ms, x_strq, x_ss, x_ssc, x_ssi, ↓x_join, ↓x_aug, x_st2I, ↓x_sl, ↓x_noP, ↓x_part, x_intq, x_slL, x_slC, x_slS, ↓x_in, x_inT, x_inL, x_ninT, x_ninL, x_inN, x_inSS, x_inSI, x_inIS, x_inII, ↓x_sg, x_sgS, x_nsgS, ↓x_eqD, ↓x_inDD, x_mulS, ↓x_isi, x_isiS, x_isiI, x_isiB, x_isiN, x_isiL, x_isiT, ↓x_isTT, x_itI, x_itStr, x_itN, x_itB, x_itLst, x_itTup, ↓x_any, ↓x_all, ↓x_sum, ↓x_srtI, ↓x_srtS, ↓x_intS, ↓x_lenRf, ↓x_tupRf, ↓x_frz', x_flS, x_flI, x_flN, x_flB, x_cs_bool, x_isB_NoneType_bool, x_isB_bool_bool, x_isB_int_bool, x_isB_str_bool, x_isB_list_bool, x_isB_tuple_bool, x_isB_dict_bool, x_cs_int, x_isB_NoneType_int, x_isB_bool_int, x_isB_int_int, x_isB_str_int, x_isB_list_int, x_isB_tuple_int, x_isB_dict_int, x_cs_str, x_isB_NoneType_str, x_isB_bool_str, x_isB_int_str, x_isB_str_str, x_isB_list_str, x_isB_tuple_str, x_isB_dict_str, x_cs_list, x_isB_NoneType_list, x_isB_bool_list, x_isB_int_list, x_isB_str_list, x_isB_list_list, x_isB_tuple_list, x_isB_dict_list, x_cs_tuple, x_isB_NoneType_tuple, x_isB_bool_tuple, x_isB_int_tuple, x_isB_str_tuple, x_isB_list_tuple, x_isB_tuple_tuple, x_isB_dict_tuple, x_cs_dict, x_isB_NoneType_dict, x_isB_bool_dict, x_isB_int_dict, x_isB_str_dict, x_isB_list_dict, x_isB_tuple_dict, x_isB_dict_dict, List.all_cons, List.all_nil, Bool.and_self, Bool.or_false, Bool.or_true, Bool.false_or, Bool.true_or, wipeD, setD, DL.isNon, List.set_cons_zero, List.set_cons_succ, List.getElem?_cons_zero, List.getElem?_cons_succ, List.length_cons, List.length_nil, Nat.zero_add, List.cons_append, List.nil_append, decide_true, decide_false, Bool.not_true, Bool.not_false, true_and, and_true, startD, List.map_cons, List.map_nil, Nat.reduceSub, Nat.reduceLeDiff, Nat.zero_le, Int.reduceLT, Int.reduceLE, and_self, Nat.reduceAdd, List.replicate])
def dSweptM (ask : AskR) (pot : List Nat → Nat) (x : Mx) : SpD := fun ds S k _ => ∃ (M : ML → Addr) (s : Hs) (vs : List Vl) (lost : List Nat) (s' : Hs), ds = [.ref (M .m), .list (vs.map vM)] ∧ MRep M x s S ∧ Wf s ∧ Good s ∧ Cl s ∧ s.rest = [] ∧ s.row = none ∧ s.lasts = 0 ∧ (∀ i, s.ends.count i ≤ s.outer.count i) ∧
  (∀ v ∈ vs, VOk s.many v) ∧ vs.length ≤ 4000 ∧ (∀ n, (s.parts n).length ≤ 5000) ∧ (∀ l1 s1, AskAll ask (s.ups l1) l1 s1 → ∀ n, (s1.parts n).length ≤ 5000) ∧ s.outer.length + pot s.asked ≤ 30000 ∧ Swept ask vs s lost s' ∧ ∀ M' S', MTr M x s S M' x s' S' → k (.list (nD lost)) S'
theorem ok_sweptM {L : Nat} {ask : AskR} (KA : AskCl ask) {pot : List Nat → Nat} (hlen : ∀ {s n s'}, ask s n s' → s'.outer.length + pot s'.asked ≤ s.outer.length + pot s.asked) {x : Mx} (hL : 3 ≤ L) {fa : Addr} {fd : FuncData} (F : Fun K "_law_swept" "_law_swept" s__law_swept fa fd) (T : Txt K mg CT CH)
    (G__law_near : DefD P w K mg base 1 "_law_near" ["_law_m", "_law_values_here"] (dNear x)) (G__law_ask : DefD P w K mg base L "_law_ask" ["_law_m", "_law_n"] (dAskM ask x)) (G__law_left : DefD P w K mg base 1 "_law_left" ["_law_m", "_law_n"] dLeft) (G__law_emptied : DefD P w K mg base 3 "_law_emptied" ["_law_m", "_law_n"] dEmptied)
    (G__law_worked : DefD P w K mg base (L + 1) "_law_worked" ["_law_m"] (dWorked ask pot x)) : FnOk P w K mg base CX0 (L + 2) fa fd ["_law_m", "_law_values_here"] (lSp K (dSweptM ask pot x)) := by
  refine dok F sc__law_swept (fun ds S q qx ⟨M, s, vs, lost, s', h, _⟩ => by rw [h]; rfl) ⟨_, fun cdv A outer s H E hr => dss_cons (ds_set (i := 2) sc__law_swept.nd rfl (Or.inr rfl) (de_call G__law_near (hr.mono (by omega)) (by rfl) (da_cons (de_var 0) (da_cons (de_var 1) da_nil))))
      (dss_cons (ds_set (i := 3) sc__law_swept.nd rfl (Or.inr rfl) (de_lc (own := [("_law_n", 4)]) (gc_name (j := 4) (by decide)) rfl sc__law_swept.nd (di_list (K := K) (de_callB (SD.call_sortedDL rfl) si_sortDL (by rfl) T.sorted (by decide +kernel) (da_cons (de_dget (hu_of hr) (de_var 0) (de_str) (fun _ _ => rfl)) da_nil))) (blkOk_by (N := N__law_swept) (sc := defScope s__law_swept) (by decide +kernel)) (fun _ _ _ _ _ => pg_name (i := 4) sc__law_swept.nd rfl (Or.inl rfl)) (fun _ _ _ _ _ => dts_one (dt_cmp (opNin (K := K)) (si_in true) (de_var 4) (de_var 2) (by rfl))) (fun _ _ _ _ _ => de_var 4)))
      (dss_cons (ds_dput (hu_of hr) (de_var 0) (de_str) (de_op op_cat si_catMN (de_dget (hu_of hr) (de_var 0) (de_str) (fun _ _ => rfl)) (de_var 3)))
      (dss_cons (ds_for PassesOwn.never rfl (di_list (K := K) (de_var 3)) (dg_name (i := 4) sc__law_swept.nd rfl (Or.inl rfl))
        (dss_one (ds_expr (de_call G__law_ask (hr.mono (by omega)) (by rfl) (da_cons (de_var 0) (da_cons (de_var 4) da_nil))))))
      (dss_cons (ds_for PassesOwn.never rfl (di_list (K := K) (de_var 3)) (dg_name (i := 4) sc__law_swept.nd rfl (Or.inl rfl))
        (dss_one (ds_expr (de_ml PySem.F.slot_list_remove PySem.F.type_list_remove mt_remove si_rem (de_dget (hu_of hr) (de_var 0) (de_str) (fun _ _ => rfl)) (da_cons (de_var 4) da_nil)))))
      (dss_cons (ds_setLc (i := 5) (own := [("_law_n", 4)]) (gc_name (j := 4) (by decide)) rfl sc__law_swept.nd rfl rfl (sw_true rfl rfl rfl (by decide +kernel)) (di_list (K := K) (de_callB (SD.call_sortedDL rfl) si_sortDL (by rfl) T.sorted (by decide +kernel) (da_cons (de_dget (hu_of hr) (de_var 0) (de_str) (fun _ _ => rfl)) da_nil))) (blkOk_by (N := N__law_swept) (sc := defScope s__law_swept) (by decide +kernel)) (fun _ _ _ _ _ => pg_name (i := 4) sc__law_swept.nd rfl (Or.inl rfl)) (fun _ _ _ _ _ => dts_one (dt_cmp (opNin (K := K)) (si_in true) (de_var 4) (de_var 3) (by rfl))) (fun _ _ _ _ _ => de_tup (da_cons (de_str) (da_cons (de_var 4) da_nil))))
      (dss_cons (ds_set (i := 2) sc__law_swept.nd rfl (Or.inr rfl) (de_call G__law_near (hr.mono (by omega)) (by rfl) (da_cons (de_var 0) (da_cons (de_op op_cat si_cat (de_var 1) (de_var 5)) da_nil))))
      (dss_cons (ds_set (i := 3) sc__law_swept.nd rfl (Or.inr rfl) (de_lc (own := [("_law_n", 4)]) (gc_name (j := 4) (by decide)) rfl sc__law_swept.nd (di_list (K := K) (de_var 3)) (blkOk_by (N := N__law_swept) (sc := defScope s__law_swept) (by decide +kernel)) (fun _ _ _ _ _ => pg_name (i := 4) sc__law_swept.nd rfl (Or.inl rfl)) (fun _ _ _ _ _ => dts_one (dt_cmp (opNin (K := K)) (si_in true) (de_var 4) (de_var 2) (by rfl))) (fun _ _ _ _ _ => de_var 4)))
      (dss_cons (ds_dput (hu_of hr) (de_var 0) (de_str) (de_new (da_nil)))
      (dss_cons (ds_for PassesOwn.never rfl (di_list (K := K) (de_var 3)) (dg_name (i := 4) sc__law_swept.nd rfl (Or.inl rfl))
        (dss_one (ds_expr (de_call G__law_left (hr.mono (by omega)) (by rfl) (da_cons (de_var 0) (da_cons (de_var 4) da_nil))))))
      (dss_cons (ds_for PassesOwn.never rfl (di_list (K := K) (de_var 3)) (dg_name (i := 4) sc__law_swept.nd rfl (Or.inl rfl))
        (dss_one (ds_expr (de_call G__law_emptied (hr.mono (by omega)) (by rfl) (da_cons (de_var 0) (da_cons (de_var 4) da_nil))))))
      (dss_cons (ds_expr (de_call G__law_worked (hr.mono (by omega)) (by rfl) (da_cons (de_var 0) da_nil)))
      (dss_one (ds_ret (de_var 3)))))))))))))), fun ds S q qx ⟨M, s, vs, lost, s', hd, R, W, G, C, hrest, hrow, hlasts, heb, hvs, hvl, hpl, hplA, hol, hsw, h⟩ => ?_⟩
  subst hd
  cases hsw with
  | busy hb => exact absurd hb (fun z => z.elim (fun y => by omega) fun y => y hrow)
  | mk l0 r0 L0 AA L1 ht W1 =>
    rename_i s1 lost0 f
    walk_at "dl"
    refine ⟨M, s, vs, rfl, R, W, C, fun n _ => hpl n, hrest, hvs, by omega, fun ns S1 kp1 hns hnl => ?_⟩
    have R1 : MRep M x s S1 := ⟨fun {l o} e => kp1.at (R.at_ e), R.inj⟩
    have T1 : MTr M x s S M x s S1 := ⟨R1, fun b hb _ => kp1 b hb, fun b hb => by rw [kp1 b hb]; exact hb, fun l hl => .inl ⟨hl, rfl⟩, fun _ _ _ => rfl⟩
    walk_at "dl"
    refine dgetOf (m_m R1) rfl mg_parts ?_
    walk_at "dl"
    refine sortOf R1 W fun ys pm pw => ?_
    obtain ⟨ts, rfl, hpt, hst⟩ := perm_nats pm pw W.nd
    have htl : ts.length ≤ 5000 := by have := hpt.length_eq; have := W.len; have := W.most; omega
    rw [List.map_map]
    walk_at "dl"
    have nin : ∀ {ns : List Nat} {S : Sto} {k : DK} {n : Nat}, k (.bl (!decide (n ∈ ns))) S → st2 (oIn true) (.int (n : Int)) (.list (nD ns)) S k ⟨⟩ := fun {ns S k n} q => by
      rw [x_ninL rfl (flat_nats _), inD_nats]
      exact q
    refine lcOf (fun i acc => acc = nD ((ts.take i).filter fun n => !decide (n ∈ ns))) (by rw [List.length_map]; omega) rfl ?_ ?_
    · rintro pl hpl i d acc hi rfl
      rw [List.getElem?_map] at hi
      obtain ⟨n, hn, rfl⟩ := Option.map_eq_some_iff.mp hi
      show gcN _ (.int (n : Int)) _ _
      have etk : (ts.take (i + 1)).filter (fun n => !decide (n ∈ ns)) = (ts.take i).filter (fun n => !decide (n ∈ ns)) ++ if (!decide (n ∈ ns)) = true then [n] else [] := by
        rw [List.take_add_one, hn, List.filter_append]
        congr 1
        show List.filter _ [n] = _
        rw [List.filter_cons]
        rfl
      walk_at "dl"
      refine nin ?_
      walk_at "dl"
      refine br (fun hb => ?_) (fun hb => ?_)
      · walk_at "dl"
        refine LcO.of hpl ?_
        rw [etk, if_pos hb, ← nD_snoc]
      · refine LcO.of hpl ?_
        rw [etk, if_neg (by rw [hb]; exact nofun), List.append_nil]
    rintro acc rfl
    rw [List.length_map, List.take_length]
    have el0 : (ts.filter fun n => !decide (n ∈ ns)) = lost0 := lost_uniq (s := s) (base := (· ∈ s.there)) (rs := vs) ⟨hst.filter _, fun n => by
      rw [List.mem_filter, hpt.mem_iff, Bool.not_eq_true', decide_eq_false_iff_not, hns]
      exact ⟨fun ⟨a, b⟩ => ⟨a, fun z => b ⟨a, z⟩⟩, fun ⟨a, b⟩ => ⟨a, fun z => b z.2⟩⟩⟩ L0
    rw [el0]
    have hlin : ∀ n ∈ lost0, n ∈ s.there := fun n hn => ((L0.mem n).mp hn).1
    have hlb : ∀ n ∈ lost0, 1 ≤ n ∧ n ≤ s.many := fun n hn => W.tin n (hlin n hn)
    have nd0 : lost0.Nodup := L0.srt.imp fun h e => by omega
    have hll : lost0.length ≤ 5000 := by have h1 := perm_len nd0 hlb; have h2 := W.most; omega
    obtain ⟨u1, u2, u3, u4, u5, u6, u7, u8, u9, u10⟩ := ups_rest lost0 s
    have gu : Good (s.ups lost0) := G.ups fun n hn => (hlb n hn).2
    have cu : Cl (s.ups lost0) := C.congr u1 u2 (fun n h => by rw [u3]; exact h) u6 u5
    walk_at "dl"
    refine dgetOf (m_m R1) rfl mg_outer ?_
    walk_at "dl"
    refine ⟨nD s.outer, nD lost0, .inr ⟨_, rfl, m_outer R1⟩, .inl rfl, by rw [nD_len, nD_len]; omega, fun po hpo => ?_⟩
    have T2 := MTr.outerNew R1 hpo (s.outer ++ lost0) (s.ups lost0).cnt
    rw [← ups_eq] at T2
    have eap : nD s.outer ++ nD lost0 = nD (s.outer ++ lost0) := by unfold nD; rw [List.map_append]
    rw [eap]
    walk_at "dl"
    refine dputOf ((put_ne (sto_ne (m_m R1) hpo)).trans (m_m R1)) rfl (show 14 < 100000 by decide) ?_
    have T2 := MTr.trans T1 T2
    have eM : ∀ {M' s' S'}, MTr M x s S M' x s' S' → M' .m = M .m := fun T => MTr.m T
    generalize put (put S1 po (.lst (nD (s.outer ++ lost0)))) (M .m) (.dct (gput (mKvs M x s.many (rowM M s.row) s.lasts) (.inr "outer") (.ref po))) = S2 at T2
    generalize (fun y => if y = ML.outer then po else M y) = M2 at T2
    walk_at "dl"
    refine forOf (fun i δ S' => ∃ z4 M' si, δ = [some (.ref (M .m)), some (.list (vs.map vM)), some (.list (nD ns)), some (.list (nD lost0)), z4, none] ∧ MTr M x s S M' x si S' ∧ Wf si ∧ Good si ∧ si.outer.length + pot si.asked ≤ 40000 ∧ AskAll ask si (lost0.drop i) s1) ⟨_, M2, _, rfl, T2, W.ups, gu, ?_, AA⟩ ?_ ?_
    · have : (s.ups lost0).asked = s.asked := by rw [ups_eq]
      rw [this, u9, List.length_append]
      omega
    · rintro i d δ S3 hi ⟨z4, M3, si, rfl, T3, W3, G3, o3, A3⟩
      unfold nD at hi
      rw [List.getElem?_map] at hi
      obtain ⟨n, hn, rfl⟩ := Option.map_eq_some_iff.mp hi
      have edr : lost0.drop i = n :: lost0.drop (i + 1) := by
        obtain ⟨h1, h2⟩ := List.getElem?_eq_some_iff.mp hn
        rw [List.drop_eq_getElem_cons h1, h2]
      rw [edr] at A3
      cases A3 with
      | cons hnt ha A4 =>
        rename_i sj
        walk_at "dl"
        refine ⟨M3, si, n, sj, by rw [eM T3], T3.rep, W3, G3, hnt, ha, fun M4 S4 T4 => ?_⟩
        walk_at "dl"
        exact ⟨_, M4, sj, rfl, MTr.trans T3 T4, KA.good.ok.wf ha W3 hnt, KA.good.good ha W3 G3 hnt, by have := hlen ha; omega, A4⟩
    rintro δ S3 ⟨z4, M3, si, rfl, T3, W3, G3, o3, A3⟩
    rw [nD_len, List.drop_length] at A3
    cases A3
    obtain ⟨w1, g1, c1, e1, e2, e3, e4, e5⟩ := AA.keep KA W.ups gu cu
    obtain ⟨d1, d2, d3, d4, d5, d6, d7, d8, d9⟩ := downs_rest lost0 s1
    have hcnt1 : ∀ n ∈ lost0, 1 ≤ s1.outer.count n := fun n hn => by
      have h1 := e5 n
      rw [u9, List.count_append, ups_ends] at h1
      have h2 := heb n
      have h3 := List.count_pos_iff.mpr hn
      omega
    have wd := w1.downs (l := lost0)
    have gd : Good (s1.downs lost0) := g1.downs nd0 fun n hn => List.count_pos_iff.mp (hcnt1 n hn)
    have cd : Cl (s1.downs lost0) := c1.congr d1 d2 (fun n h => by rw [d3]; exact h) d6 d5
    have hdo : ∀ i, (s1.downs (lost0.take i)).outer.length ≤ s1.outer.length ∧ (s1.downs (lost0.take i)).asked = s1.asked ∧ ∀ n, n ∈ lost0.drop i → n ∈ (s1.downs (lost0.take i)).outer := by
      have : ∀ (l r : List Nat) (t : Hs), (l ++ r).Nodup → (∀ n ∈ r, n ∈ t.outer) → (t.downs l).outer.length ≤ t.outer.length ∧ (t.downs l).asked = t.asked ∧ ∀ n ∈ r, n ∈ (t.downs l).outer := by
        intro l
        induction l with
        | nil => intro r t _ h; exact ⟨Nat.le_refl _, rfl, h⟩
        | cons a l ih =>
          intro r t nd h
          rw [List.cons_append, List.nodup_cons] at nd
          obtain ⟨i1, i2, i3⟩ := ih r (t.down a) nd.2 fun n hn => (List.mem_erase_of_ne (fun e : n = a => nd.1 (e ▸ List.mem_append_right _ hn))).mpr (h n hn)
          exact ⟨Nat.le_trans i1 (List.length_erase_le ..), i2, i3⟩
      exact fun i => this _ _ _ (by rw [List.take_append_drop]; exact nd0) fun n hn => List.count_pos_iff.mp (hcnt1 n (List.mem_of_mem_drop hn))
    have tk : ∀ {i n : Nat}, lost0[i]? = some n → lost0.take (i + 1) = lost0.take i ++ [n] := fun h => by rw [List.take_add_one, h]; rfl
    walk_at "dl"
    refine forOf (fun i δ S' => ∃ z4 M', δ = [some (.ref (M .m)), some (.list (vs.map vM)), some (.list (nD ns)), some (.list (nD lost0)), z4, none] ∧ MTr M x s S M' x (s1.downs (lost0.take i)) S') ⟨_, M3, rfl, T3⟩ ?_ ?_
    · rintro i d δ S4 hi ⟨z4, M4, rfl, T4⟩
      unfold nD at hi
      rw [List.getElem?_map] at hi
      obtain ⟨n, hn, rfl⟩ := Option.map_eq_some_iff.mp hi
      have edr : lost0.drop i = n :: lost0.drop (i + 1) := by
        obtain ⟨h1, h2⟩ := List.getElem?_eq_some_iff.mp hn
        rw [List.drop_eq_getElem_cons h1, h2]
      have hno := (hdo i).2.2 n (by rw [edr]; exact List.mem_cons_self ..)
      have hm4 := m_m T4.rep
      rw [eM T4] at hm4
      have ho4 := m_outer' T4.rep
      walk_at "dl"
      refine dgetOf hm4 rfl mg_outer ?_
      walk_at "dl"
      refine needOf (isLOf ho4) ?_
      walk_at "dl"
      refine remOf ho4 (mem_cast hno) ?_
      rw [erase_cast, ← nD_ints]
      have T5 : MTr M4 x (s1.downs (lost0.take i)) S4 M4 x ((s1.downs (lost0.take i)).down n) _ := MTr.outer T4.rep ((s1.downs (lost0.take i)).outer.erase n) (DL.fset (s1.downs (lost0.take i)).cnt n ((s1.downs (lost0.take i)).cnt n - 1))
      walk_at "dl"
      refine ⟨_, M4, rfl, ?_⟩
      rw [tk hn, downs_snoc]
      exact MTr.trans T4 T5
    rintro δ S4 ⟨z4, M4, rfl, T4⟩
    rw [nD_len, List.take_length] at T4
    have hm4 := m_m T4.rep
    rw [eM T4] at hm4
    walk_at "dl"
    refine dgetOf hm4 rfl mg_parts ?_
    walk_at "dl"
    refine sortOf T4.rep wd fun ys pm pw => ?_
    obtain ⟨us, rfl, hpu, hsu⟩ := perm_nats pm pw wd.nd
    have hul : us.length ≤ 5000 := by have := hpu.length_eq; have := wd.len; have := wd.most; omega
    rw [List.map_map]
    walk_at "dl"
    refine lcOf (fun i acc => acc = ((us.take i).filter fun n => !decide (n ∈ lost0)).map fun n => vM (.th n)) (by rw [List.length_map]; omega) rfl ?_ ?_
    · rintro pl hpl i d acc hi rfl
      rw [List.getElem?_map] at hi
      obtain ⟨n, hn, rfl⟩ := Option.map_eq_some_iff.mp hi
      show gcN _ (.int (n : Int)) _ _
      have etk : (us.take (i + 1)).filter (fun n => !decide (n ∈ lost0)) = (us.take i).filter (fun n => !decide (n ∈ lost0)) ++ if (!decide (n ∈ lost0)) = true then [n] else [] := by
        rw [List.take_add_one, hn, List.filter_append]
        congr 1
        show List.filter _ [n] = _
        rw [List.filter_cons]
        rfl
      walk_at "dl"
      refine nin ?_
      walk_at "dl"
      refine br (fun hb => ?_) (fun hb => ?_)
      · walk_at "dl"
        refine LcO.of hpl ?_
        rw [etk, if_pos hb, List.map_append]
        rfl
      · refine LcO.of hpl ?_
        rw [etk, if_neg (by rw [hb]; exact nofun), List.append_nil]
    rintro acc rfl
    rw [List.length_map, List.take_length]
    obtain ⟨o, eo⟩ : ∃ o, o = us.filter fun n => !decide (n ∈ lost0) := ⟨_, rfl⟩
    rw [← eo]
    have ho : ∀ n, n ∈ o ↔ n ∈ (s1.downs lost0).there ∧ n ∉ lost0 := fun n => by rw [eo, List.mem_filter, hpu.mem_iff, Bool.not_eq_true', decide_eq_false_iff_not]
    have hol5 : o.length ≤ 5000 := by rw [eo]; exact Nat.le_trans (List.length_filter_le ..) hul
    walk_at "dl"
    refine fewOf (by rw [List.length_map, List.length_map]; omega) ?_
    have erl : vs.map vM ++ o.map (fun n => vM (.th n)) = (vs ++ o.map Vl.th).map vM := by rw [List.map_append, List.map_map]; rfl
    rw [erl]
    have hvs4 : ∀ v ∈ vs ++ o.map Vl.th, VOk (s1.downs lost0).many v := fun v hv => by
      rcases List.mem_append.mp hv with hv | hv
      · have h1 := hvs v hv
        cases v with
        | no d => exact h1
        | th n => have h1 : 1 ≤ n ∧ n ≤ s.many := h1; rw [u5] at e4; exact (show 1 ≤ n ∧ n ≤ (s1.downs lost0).many by rw [d5]; omega)
      · obtain ⟨n, hn, rfl⟩ := List.mem_map.mp hv
        exact wd.tin n ((ho n).mp hn).1
    have hrd : (s1.downs lost0).rest = [] := by rw [d3, e1, u3]; exact hrest
    refine ⟨M4, _, vs ++ o.map Vl.th, by rw [eM T4], T4.rep, wd, cd, fun n _ => by rw [d2]; exact hplA lost0 s1 AA n, hrd, hvs4, by rw [List.length_append, List.length_map]; omega, fun ns2 S5 kp5 hns2 hnl2 => ?_⟩
    have R5 : MRep M4 x (s1.downs lost0) S5 := ⟨fun {l o} e => kp5.at (T4.rep.at_ e), T4.rep.inj⟩
    have T5 : MTr M x s S M4 x (s1.downs lost0) S5 := MTr.trans T4 ⟨R5, fun b hb _ => kp5 b hb, fun b hb => by rw [kp5 b hb]; exact hb, fun l hl => .inl ⟨hl, rfl⟩, fun _ _ _ => rfl⟩
    walk_at "dl"
    refine lcOf (fun i acc => acc = nD ((lost0.take i).filter fun n => !decide (n ∈ ns2))) (by rw [nD_len]; omega) rfl ?_ ?_
    · rintro pl hpl i d acc hi rfl
      unfold nD at hi
      rw [List.getElem?_map] at hi
      obtain ⟨n, hn, rfl⟩ := Option.map_eq_some_iff.mp hi
      have etk : (lost0.take (i + 1)).filter (fun n => !decide (n ∈ ns2)) = (lost0.take i).filter (fun n => !decide (n ∈ ns2)) ++ if (!decide (n ∈ ns2)) = true then [n] else [] := by
        rw [tk hn, List.filter_append]
        congr 1
        rw [List.filter_cons]
        rfl
      walk_at "dl"
      refine nin ?_
      walk_at "dl"
      refine br (fun hb => ?_) (fun hb => ?_)
      · walk_at "dl"
        refine LcO.of hpl ?_
        rw [etk, if_pos hb, ← nD_snoc]
      · refine LcO.of hpl ?_
        rw [etk, if_neg (by rw [hb]; exact nofun), List.append_nil]
    rintro acc rfl
    rw [nD_len, List.take_length]
    have hmem : ∀ n, Vl.th n ∈ vs ++ o.map Vl.th ↔ Vl.th n ∈ vs ++ (others (s1.downs lost0) lost0).map Vl.th := fun n => by
      rw [List.mem_append, List.mem_append]
      refine or_congr Iff.rfl ?_
      rw [List.mem_map, List.mem_map]
      have hh : ∀ n, n ∈ o ↔ n ∈ others (s1.downs lost0) lost0 := fun n => by
        unfold others
        rw [ho, List.mem_filter, decide_eq_true_iff]
      exact ⟨fun ⟨m, h1, h2⟩ => ⟨m, (hh m).mp h1, h2⟩, fun ⟨m, h1, h2⟩ => ⟨m, (hh m).mpr h1, h2⟩⟩
    have htd : ∀ n ∈ lost0, n ∈ (s1.downs lost0).there := fun n hn => by rw [d1]; exact ht n hn
    have el1 : (lost0.filter fun n => !decide (n ∈ ns2)) = lost := lost_uniq (s := s1.downs lost0) (base := (· ∈ lost0)) (rs := vs ++ (others (s1.downs lost0) lost0).map Vl.th) ⟨L0.srt.filter _, fun n => by
      rw [List.mem_filter, Bool.not_eq_true', decide_eq_false_iff_not, hns2]
      have hq : Rch (ledP (s1.downs lost0)) (vs ++ o.map Vl.th) n ↔ Rch (ledP (s1.downs lost0)) (vs ++ (others (s1.downs lost0) lost0).map Vl.th) n := ⟨fun h => h.mono (fun n => (hmem n).mp) fun _ _ h => h, fun h => h.mono (fun n => (hmem n).mpr) fun _ _ h => h⟩
      rw [hq]
      exact ⟨fun ⟨a, b⟩ => ⟨a, fun z => b ⟨htd n a, z⟩⟩, fun ⟨a, b⟩ => ⟨a, fun z => b z.2⟩⟩⟩ L1
    rw [el1]
    have hl1 : ∀ n ∈ lost, n ∈ lost0 := fun n hn => ((L1.mem n).mp hn).1
    have nd1 : lost.Nodup := L1.srt.imp fun h e => by omega
    have hrow5 : (s1.downs lost0).row = none := by rw [d4, e3, u4]; exact r0
    walk_at "dl"
    refine freshOf fun pr hpr => ?_
    have hm5 := m_m T5.rep
    rw [eM T5] at hm5
    walk_at "dl"
    refine dputOf ((put_ne (sto_ne hm5 hpr)).trans hm5) rfl (show 14 < 100000 by decide) ?_
    rw [mp_row]
    have T6 : MTr M4 x (s1.downs lost0) S5 (fun y => if y = .row then pr else M4 y) x ((s1.downs lost0).rowed (some [])) _ := MTr.begun T5.rep hrow5 hpr []
    rw [eM T5] at T6
    have T6 := MTr.trans T5 T6
    have emk : mKvs M4 x (s1.downs lost0).many (.ref pr) (s1.downs lost0).lasts = mKvs M4 x (s1.downs lost0).many (.ref pr) (s1.downs lost0).lasts := rfl
    generalize (fun y => if y = ML.row then pr else M4 y) = M6 at T6
    have enil : nD ([] : List Nat) = [] := rfl
    rw [enil] at T6
    generalize put (put S5 pr (.lst [])) (M .m) (.dct (mKvs M4 x (s1.downs lost0).many (.ref pr) (s1.downs lost0).lasts)) = S6 at T6
    have tk1 : ∀ {i n : Nat}, lost[i]? = some n → lost.take (i + 1) = lost.take i ++ [n] := fun h => by rw [List.take_add_one, h]; rfl
    have ndt : ∀ i, (lost.take i).Nodup := fun i => nd1.sublist (List.take_sublist i lost)
    have gn : ∀ i, Gns ((s1.downs lost0).rowed (some [])) (((s1.downs lost0).rowed (some [])).gones (lost.take i)) (lost.take i) := fun i => gones_ok wd.rowed0 (gd.rowed _) (ndt i) fun n hn => htd n (hl1 n (List.mem_of_mem_take hn))
    have nth : ∀ {i n : Nat}, lost[i]? = some n → n ∉ lost.take i := fun {i n} h z => by
      have := ndt (i + 1)
      rw [tk1 h] at this
      exact (List.nodup_append.mp this).2.2 n z n (List.mem_singleton.mpr rfl) rfl
    walk_at "dl"
    refine forOf (fun i δ S' => ∃ z4 M', δ = [some (.ref (M .m)), some (.list (vs.map vM)), some (.list (nD ns2)), some (.list (nD lost)), z4, some (.list (o.map fun n => vM (.th n)))] ∧ MTr M x s S M' x (((s1.downs lost0).rowed (some [])).gones (lost.take i)) S') ⟨_, M6, rfl, T6⟩ ?_ ?_
    · rintro i d δ S7 hi ⟨z4, M7, rfl, T7⟩
      unfold nD at hi
      rw [List.getElem?_map] at hi
      obtain ⟨n, hn, rfl⟩ := Option.map_eq_some_iff.mp hi
      walk_at "dl"
      refine ⟨M7, x, _, n, by rw [eM T7], T7.rep, (gn i).W, (gn i).G, ((gn i).there n).mpr ⟨htd n (hl1 n (List.mem_of_getElem? hn)), nth hn⟩, fun S8 T8 => ?_⟩
      walk_at "dl"
      refine ⟨_, M7, rfl, ?_⟩
      rw [tk1 hn, gones_snoc]
      exact MTr.trans T7 T8
    rintro δ S7 ⟨z4, M7, rfl, T7⟩
    rw [nD_len, List.take_length] at T7
    have gl := gn lost.length
    rw [List.take_length] at gl
    have em : ∀ i, Ems (((s1.downs lost0).rowed (some [])).gones lost) ((((s1.downs lost0).rowed (some [])).gones lost).empts (lost.take i)) (lost.take i) := fun i => empts_ok gl.W gl.G (ndt i) fun n hn => by rw [gl.rest]; exact List.mem_append_right _ (List.mem_of_mem_take hn)
    have hr0 : (((s1.downs lost0).rowed (some [])).gones lost).row ≠ none := by rw [gl.row]; exact nofun
    walk_at "dl"
    refine forOf (fun i δ S' => ∃ z4 M', δ = [some (.ref (M .m)), some (.list (vs.map vM)), some (.list (nD ns2)), some (.list (nD lost)), z4, some (.list (o.map fun n => vM (.th n)))] ∧ MTr M x s S M' x ((((s1.downs lost0).rowed (some [])).gones lost).empts (lost.take i)) S') ⟨_, M7, rfl, T7⟩ ?_ ?_
    · rintro i d δ S8 hi ⟨z4, M8, rfl, T8⟩
      unfold nD at hi
      rw [List.getElem?_map] at hi
      obtain ⟨n, hn, rfl⟩ := Option.map_eq_some_iff.mp hi
      walk_at "dl"
      refine ⟨M8, x, _, n, by rw [eM T8], T8.rep, (em i).W, (em i).G, ((em i).rest n).mpr ⟨by rw [gl.rest]; exact List.mem_append_right _ (List.mem_of_getElem? hn), nth hn⟩, (em i).row hr0, fun S9 T9 => ?_⟩
      walk_at "dl"
      refine ⟨_, M8, rfl, ?_⟩
      rw [tk1 hn, empts_snoc]
      exact MTr.trans T8 T9
    rintro δ S8 ⟨z4, M8, rfl, T8⟩
    rw [nD_len, List.take_length] at T8
    have em := em lost.length
    rw [List.take_length] at em
    have hos : ((((s1.downs lost0).rowed (some [])).gones lost).empts lost).outer.length + pot ((((s1.downs lost0).rowed (some [])).gones lost).empts lost).asked ≤ 50000 := by
      have h1 := (hdo lost0.length).1
      have h2 := (hdo lost0.length).2.1
      rw [List.take_length] at h1 h2
      have e5' : ((((s1.downs lost0).rowed (some [])).gones lost).empts lost).asked = (s1.downs lost0).asked := by
        rw [empts_asked, (gones_left lost _).1]
        rfl
      have e6' : ((((s1.downs lost0).rowed (some [])).gones lost).empts lost).outer = (s1.downs lost0).outer := by rw [em.outer, gl.outer]; rfl
      rw [e5', e6', h2]
      omega
    walk_at "dl"
    refine ⟨M8, _, f, s', by rw [eM T8], T8.rep, em.W, em.G, hos, W1, fun M9 S9 T9 => ?_⟩
    walk_at "dl"
    exact h M9 S9 (MTr.trans T8 T9)
end
end K

set_option Elab.async false
set_option linter.all false
set_option maxRecDepth 100000
namespace HM
open PySem L2 DL
theorem msum_le {f g : Nat → Nat} : ∀ {m : Nat}, (∀ i, f i ≤ g i) → msum f m ≤ msum g m
  | 0, _ => Nat.le_refl _
  | m + 1, h => Nat.add_le_add (msum_le h) (h _)
theorem loose_no {s s' : Hs} {v : Vl} (t : Loose askNo s v s') (w : Wf s) (g : GoodP s v) : Kp s s' := by
  cases t with
  | no => exact Kp.refl s
  | kept h => exact ⟨rfl, fun _ => rfl, rfl, rfl, fun _ => List.Sublist.refl _, rfl, rfl, rfl, rfl, rfl, rfl, fun _ h => h⟩
  | wait h _ => exact ⟨rfl, fun _ => rfl, rfl, rfl, fun _ => List.Sublist.refl _, rfl, rfl, rfl, rfl, rfl, rfl, fun _ h => h⟩
  | work h h1 h2 =>
    rename_i n f
    have gl := g.loosed
    rw [loosed_th, if_pos h] at gl
    have w1 := (w.dec n).enq h
    obtain ⟨k, _⟩ := work_no h2 ⟨w1.nd, w1.tin, w1.len, w1.most, w1.key, w1.plen, w1.pv, w1.wnd, w1.win, fun l hl => by
      cases hl
      exact ⟨by simp, fun i hi => by rw [List.mem_singleton.mp hi]; exact List.mem_append_right _ (List.mem_singleton.mpr rfl)⟩, w1.pz, w1.az, w1.kok⟩ ⟨gl.cnt, gl.rnd, gl.rt, gl.rin, gl.oin⟩
    exact ⟨k.mine, k.out, k.len, k.many, k.shr, k.asked, k.ends, k.told, k.lasts, k.form, k.own, k.there⟩
theorem Cl.made {s : Hs} (c : Cl s) (w : Wf s) (form : D) {own : D} (ho : NoTh own) : Cl (s.made form own) := by
  refine ⟨fun i hi kv hk j e => ?_, fun n h1 h2 => ?_, fun n h1 h2 => ?_⟩
  · have hk : kv ∈ s.parts i := hk
    rcases List.mem_append.mp hi with hi | hi
    · exact List.mem_append_left _ (c.cl i hi kv hk j e)
    · rw [List.mem_singleton.mp hi, w.pz _ (Nat.lt_succ_self _)] at hk
      cases hk
  · exact c.gp n (fun z => h1 (List.mem_append_left _ z)) h2
  · have h2 : n ≤ s.many + 1 := h2
    show NoTh (fset s.own (s.many + 1) own n)
    by_cases z : n = s.many + 1
    · subst z; rw [fset_same]; exact ho
    · rw [fset_ne z]; exact c.ow n h1 (by omega)
theorem Cl.putP {s : Hs} (c : Cl s) {n : Nat} (hn : n ∈ s.there) (k : Key) {v : Vl} (hv : ∀ j, v = .th j → j ∈ s.there) : Cl (s.putP n k v) := by
  have e1 : (s.putP n k v).there = s.there := by unfold Hs.putP; cases v <;> rfl
  have e2 : (s.putP n k v).rest = s.rest := by unfold Hs.putP; cases v <;> rfl
  have e3 : (s.putP n k v).own = s.own := by unfold Hs.putP; cases v <;> rfl
  have e4 : (s.putP n k v).many = s.many := by unfold Hs.putP; cases v <;> rfl
  have e5 : (s.putP n k v).parts = fset s.parts n (gput (s.parts n) k v) := rfl
  refine ⟨fun i hi kv hk j e => ?_, fun i h1 h2 => ?_, by rw [e3, e4]; exact c.ow⟩
  · rw [e1] at hi ⊢
    rw [e5] at hk
    by_cases z : i = n
    · subst z
      rw [fset_same] at hk
      rcases gput_mem hk with h | h
      · exact c.cl i hi kv h j e
      · exact hv j (by rw [← h, e])
    · rw [fset_ne z] at hk; exact c.cl i hi kv hk j e
  · rw [e1] at h1
    rw [e2] at h2
    rw [e5, fset_ne (fun z => h1 (by rw [z]; exact hn))]
    exact c.gp i h1 h2
theorem Cl.dropP {s : Hs} (c : Cl s) {n : Nat} (hn : n ∈ s.there) (k : Key) : Cl (s.dropP n k) := by
  refine ⟨fun i hi kv hk j e => ?_, fun i h1 h2 => ?_, c.ow⟩
  · have hi : i ∈ s.there := hi
    have hk : kv ∈ fset s.parts n (gdrop (s.parts n) k) i := hk
    by_cases z : i = n
    · subst z
      rw [fset_same] at hk
      exact c.cl i hi kv (List.mem_filter.mp hk).1 j e
    · rw [fset_ne z] at hk; exact c.cl i hi kv hk j e
  · have h1 : i ∉ s.there := h1
    show fset s.parts n _ i = []
    rw [fset_ne (fun z => h1 (by rw [z]; exact hn))]
    exact c.gp i h1 h2
/-- at rest, without an ender -/
structure Zs (s : Hs) : Prop where
  C : Cl s
  rest : s.rest = []
  lasts : s.lasts = 0
  ends : s.ends = []
  mn : ∀ n ∈ s.mine, 1 ≤ n ∧ n ≤ s.many
theorem Zs.step {s s' : Hs} {d : Dl} (W : Wf s) (G : Good s) (z : Zs s) (ok : d.Ok s) (hth : ∀ j ∈ _root_.K.dThs d, j ∈ s.there) (r : d.R askNo s s') : Zs s' := by
  cases r with
  | new => exact ⟨z.C.made W _ .non, z.rest, z.lasts, z.ends, fun n hn => by have := z.mn n hn; exact (show 1 ≤ n ∧ n ≤ s.many + 1 by omega)⟩
  | hold =>
    rename_i n
    refine ⟨z.C.congr rfl rfl (fun _ h => h) rfl rfl, z.rest, z.lasts, z.ends, fun i hi => ?_⟩
    rcases List.mem_append.mp hi with hi | hi
    · exact z.mn i hi
    · rw [List.mem_singleton.mp hi]; exact W.tin n ok
  | loose t =>
    rename_i n
    obtain ⟨o1, o2, o3⟩ := ok
    have W1 := W.unheld n
    have G1 := G.unheld o3
    obtain ⟨c, e1, e2⟩ := t.cl askNo_cl W1 G1 (z.C.congr rfl rfl (fun _ h => h) rfl rfl)
    have k := loose_no t W1 G1
    exact ⟨c, e1.trans z.rest, e2.trans z.lasts, k.ends.trans z.ends, fun i hi => by rw [k.mine] at hi; rw [k.many]; exact z.mn i (List.mem_of_mem_erase hi)⟩
  | part r =>
    cases r with
    | put t =>
      rename_i n k v
      obtain ⟨o1, o2, o3, o4⟩ := ok
      have W1 := W.putP (k := k) (W.tin n o1).2 o3 o2 o4
      have G1 := G.putP W o1 k v
      have hm : (s.putP n k v).mine = s.mine ∧ (s.putP n k v).many = s.many ∧ (s.putP n k v).rest = s.rest ∧ (s.putP n k v).lasts = s.lasts ∧ (s.putP n k v).ends = s.ends := by unfold Hs.putP; cases v <;> exact ⟨rfl, rfl, rfl, rfl, rfl⟩
      obtain ⟨c, e1, e2⟩ := t.cl askNo_cl W1 G1 (z.C.putP o1 k fun j e => hth j (by subst e; simp [_root_.K.dThs]))
      have kp := loose_no t W1 G1
      exact ⟨c, e1.trans (hm.2.2.1.trans z.rest), e2.trans (hm.2.2.2.1.trans z.lasts), kp.ends.trans (hm.2.2.2.2.trans z.ends), fun i hi => by rw [kp.mine, hm.1] at hi; rw [kp.many, hm.2.1]; exact z.mn i hi⟩
    | take hv t =>
      rename_i n k v
      obtain ⟨o1, o2⟩ := ok
      have W1 := W.dropP (k := k) (W.tin n o1).2
      have G1 := G.dropP W o1 hv
      obtain ⟨c, e1, e2⟩ := t.cl askNo_cl W1 G1 (z.C.dropP o1 k)
      have kp := loose_no t W1 G1
      exact ⟨c, e1.trans z.rest, e2.trans z.lasts, kp.ends.trans z.ends, fun i hi => by rw [kp.mine] at hi; rw [kp.many]; exact z.mn i hi⟩
    | none h => exact z
    | make t => exact ok.elim
end HM
namespace K
open PySem L2 Evl EX DL HM
abbrev s_law : Stmt := top 37
abbrev N_law : List Str := ["_law_script", "_law_well_here", "_law_hall", "_law_m", "_law_things", "_law_deed", "_law_around", "_law_turn", "_law_k", "_law_values_here", "_law_numbers", "_law_value_here", "_law_n"]
theorem sc_law : FnScope N_law ["_law_script"] (defScope s_law) := ⟨rfl, rfl, rfl, by decide +kernel, rfl, by decide +kernel, by decide +kernel⟩
section
variable {P : Program} {w : World} {K : PySem.W.Frag} {mg : Str → Option Value} {base : Heap} {CT CH CD : Addr} {en : D}
local macro_rules | `(tactic| walk_at "dl") => `(tactic| try simp only [↓x_lcN, ↓x_lcSN, ↓x_catM, ↓x_catMN, ↓x_neV, ↓x_sortSet, ↓x_sortDLN, ↓x_lrg, ↓x_neg, ↓x_lcS, ↓x_lockE, ↓x_eqA, ↓x_dictD, ↓x_disp, ↓x_pNil, ↓x_pCons, ↓x_forS, ↓x_diSL, ↓x_diKeys, ↓x_lock, ↓x_dictP, ↓x_fld, ↓x_fldS, ↓x_fldA, ↓x_meth, ↓x_make, ↓x_dget, ↓x_din, ↓x_dget1, ↓x_dget2, ↓x_dpop, ↓x_dput, ↓x_listD, ↓x_sortDI, ↓x_lenD, ↓x_isiC, x_icS, x_icI, x_icB, x_icN, x_ioS, x_ioI, x_ioB, x_ioN, ↓x_gSub, ↓x_sortDL, ↓x_eqO, ↓x_ninA, x_catN, x_isBB, x_isBN, x_isBI, x_isBS, x_isBR, ↓x_seq, ↓x_nx, ↓x_pass, ↓x_brk, ↓x_cnt, ↓x_drop, ↓x_ret, ↓x_retN, ↓x_ifS, ↓x_set, ↓x_asg, ↓x_gN, ↓x_gT, ↓x_gsC, ↓x_gsN, ↓x_var, x_rdv, ↓x_c, ↓x_op, ↓x_test, x_tst, ↓x_and, ↓x_or, ↓x_not, ↓x_andV, ↓x_orV, ↓x_notV, x_tstV, ↓x_ifE, x_true, x_false, ↓x_nil, ↓x_cons, ↓x_tup, ↓x_lst, ↓x_new, ↓x_newD, ↓x_call, ↓x_cb, x_oI, x_oIc, x_oS, x_addS, x_isN, x_notN, x_eqI, x_eqS, x_eqIS, x_eqSI, x_eqNS, x_neI, x_neS, x_neB, x_eqB, x_few, x_need, ↓x_ix, x_lenS, x_ixL0, x_ixT0, x_ixT1, x_ixT2, x_ixT3, x_ixT4, x_lenL, x_lenT, x_lenC, x_listL, x_listT, x_tupL, x_tupT, x_strI, x_strS, x_int1, x_intB, x_I1, x_I2, x_cat, x_catT, ↓x_split, ↓x_for, ↓x_cut, ↓x_lc, ↓x_whl, ↓x_diL, ↓x_diT, ↓x_diS, x_itL, x_itC, x_itT, x_itS, ↓x_diR1, ↓x_diR2, ↓x_diE, x_enmL, x_enmC, ↓x_gcN, ↓x_gcT, ↓x_yes, ↓x_ml, ↓x_ms, x_strq, x_ss, x_ssc, x_ssi, ↓x_join, ↓x_aug, x_st2I, ↓x_sl, ↓x_noP, ↓x_part, x_intq, x_slL, x_slC, x_slS, ↓x_in, x_inT, x_inL, x_ninT, x_ninL, x_inN, x_inSS, x_inSI, x_inIS, x_inII, ↓x_sg, x_sgS, x_nsgS, ↓x_eqD, ↓x_inDD, x_mulS, ↓x_isi, x_isiS, x_isiI, x_isiB, x_isiN, x_isiL, x_isiT, ↓x_isTT, x_itI, x_itStr, x_itN, x_itB, x_itLst, x_itTup, ↓x_any, ↓x_all, ↓x_sum, ↓x_srtI, ↓x_srtS, ↓x_intS, ↓x_lenRf, ↓x_tupRf, ↓x_frz', x_flS, x_flI, x_flN, x_flB, x_cs_bool, x_isB_NoneType_bool, x_isB_bool_bool, x_isB_int_bool, x_isB_str_bool, x_isB_list_bool, x_isB_tuple_bool, x_isB_dict_bool, x_cs_int, x_isB_NoneType_int, x_isB_bool_int, x_isB_int_int, x_isB_str_int, x_isB_list_int, x_isB_tuple_int, x_isB_dict_int, x_cs_str, x_isB_NoneType_str, x_isB_bool_str, x_isB_int_str, x_isB_str_str, x_isB_list_str, x_isB_tuple_str, x_isB_dict_str, x_cs_list, x_isB_NoneType_list, x_isB_bool_list, x_isB_int_list, x_isB_str_list, x_isB_list_list, x_isB_tuple_list, x_isB_dict_list, x_cs_tuple, x_isB_NoneType_tuple, x_isB_bool_tuple, x_isB_int_tuple, x_isB_str_tuple, x_isB_list_tuple, x_isB_tuple_tuple, x_isB_dict_tuple, x_cs_dict, x_isB_NoneType_dict, x_isB_bool_dict, x_isB_int_dict, x_isB_str_dict, x_isB_list_dict, x_isB_tuple_dict, x_isB_dict_dict, List.all_cons, List.all_nil, Bool.and_self, Bool.or_false, Bool.or_true, Bool.false_or, Bool.true_or, wipeD, setD, DL.isNon, List.set_cons_zero, List.set_cons_succ, List.getElem?_cons_zero, List.getElem?_cons_succ, List.length_cons, List.length_nil, Nat.zero_add, List.cons_append, List.nil_append, decide_true, decide_false, Bool.not_true, Bool.not_false, true_and, and_true, startD, List.map_cons, List.map_nil, Nat.reduceSub, Nat.reduceLeDiff, Nat.zero_le, Int.reduceLT, Int.reduceLE, and_self, Nat.reduceAdd, List.replicate])
section
variable {S S' : Sto} {w : Addr}
theorem Well.live (h : Well S w) : S w ≠ none := by obtain ⟨_, _, _, _, _, g, _⟩ := h; rw [g]; exact nofun
theorem Well.at (h : Well S w) (e : S' w = S w) : Well S' w := by
  obtain ⟨a, b, c, d, cs, g, r⟩ := h
  exact ⟨a, b, c, d, cs, by rw [e]; exact g, r⟩
theorem well_lc {S3 : Sto} {p : Addr} {acc : List D} (hp : S p = none) (hw : Well S w) (hw3 : Well S3 w) (f : ∀ y, y ≠ w → S3 y = DL.put S p (.lst acc) y) : ∃ S4, S4 p = none ∧ S3 = DL.put S4 p (.lst acc) ∧ Well S4 w ∧ ∀ y, y ≠ w → S4 y = S y := by
  have npw : p ≠ w := fun z => hw.live (by rw [← z]; exact hp)
  refine ⟨del S3 p, if_pos rfl, funext fun y => ?_, hw3.at (if_neg (Ne.symm npw)), fun y hy => ?_⟩
  · by_cases z : y = p
    · subst z
      rw [put_same, f _ npw, put_same]
    · rw [put_ne z]
      exact (if_neg z).symm
  · by_cases z : y = p
    · subst z
      rw [hp]
      exact if_pos rfl
    · show (if y = p then none else S3 y) = S y
      rw [if_neg z, f y hy, put_ne z]
end
def dValues (x : Mx) : SpD := fun ds S k _ => ∃ (w : Addr) (M : ML → Addr) (s : Hs), ds = [.ref w, .ref (M .m)] ∧ Well S w ∧ MRep M x s S ∧ Wf s ∧ (∀ n ∈ s.mine, 1 ≤ n ∧ n ≤ s.many) ∧ s.mine.length ≤ 4000 ∧ (∀ l, mC M x s l ≠ none → M l ≠ w) ∧
  ∀ (vs : List Vl) S', (∀ v ∈ vs, VOk s.many v) → vs.length ≤ 4000 → Well S' w → (∀ y, y ≠ w → S' y = S y) → k (.list (vs.map vM)) S'
theorem ok_values {x : Mx} {fa : Addr} {fd : FuncData} (F : Fun K "_law_values" "_law_values" s__law_values fa fd) (T : Txt K mg CT CH) (G__law_dig : DefD P w K mg base 2 "_law_dig" ["_law_well_here", "_law_most"] dDig) (G__law_value : DefD P w K mg base 3 "_law_value" ["_law_well_here", "_law_m"] (dValue x)) :
    FnOk P w K mg base CX0 4 fa fd ["_law_well_here", "_law_m"] (lSp K (dValues x)) := by
  refine dok F sc__law_values (fun ds S q qx ⟨w, M, s, h, _⟩ => by rw [h]; rfl) ⟨_, fun cdv A outer s H E hr => dss_cons (ds_if (dt_cmp op_eq si_eq (de_call G__law_dig (hr.mono (by decide)) (by rfl) (da_cons (de_var 0) (da_cons (de_int) da_nil))) (de_int) (nomark _))
        (dss_one (ds_ret (de_lcS (own := [("_law_n", 2)]) (gc_name (j := 2) (by decide)) rfl sc__law_values.nd (di_stl (K := K) (de_dget (hu_of hr) (de_var 1) (de_str) (fun _ _ => rfl))) (blkOk_by (N := N__law_values) (sc := defScope s__law_values) (by decide +kernel)) (fun _ _ _ _ _ => pg_name (i := 2) sc__law_values.nd rfl (Or.inl rfl)) (fun _ _ _ _ _ => dts_nil) (fun _ _ _ _ _ => de_tup (da_cons (de_str) (da_cons (de_var 2) da_nil))))))
        (dss_nil))
      (dss_one (ds_ret (de_lc (own := [("_law_k", 3)]) (gc_name (j := 3) (by decide)) rfl sc__law_values.nd (di_range1 (by rfl) T.range (da_cons (de_call G__law_dig (hr.mono (by decide)) (by rfl) (da_cons (de_var 0) (da_cons (de_int) da_nil))) da_nil)) (blkOk_by (N := N__law_values) (sc := defScope s__law_values) (by decide +kernel)) (fun _ _ _ _ _ => pg_name (i := 3) sc__law_values.nd rfl (Or.inl rfl)) (fun _ _ _ _ _ => dts_nil) (fun _ _ _ _ _ => de_call G__law_value (hr.mono (by decide)) (by rfl) (da_cons (de_var 0) (da_cons (de_var 1) da_nil)))))), fun ds S q qx ⟨w, M, s, hd, hw, R, W, hmn, hml, hdis, h⟩ => ?_⟩
  subst hd
  walk_at "dl"
  refine ⟨w, 2, rfl, hw, by decide, by decide, fun r S1 hr hw1 f1 => ?_⟩
  have R1 := m_keep R hdis f1
  walk_at "dl"
  refine br (fun _ => ?_) (fun _ => ?_)
  · walk_at "dl"
    refine dgetOf (m_m R1) rfl mg_mine ?_
    walk_at "dl"
    refine slOf (m_mine R1) ?_
    refine lcSOf (fun i acc => acc = (s.mine.take i).map fun n => vM (.th n)) (by rw [nD_len]; omega) (fun p acc hp => (put_ne (sto_ne (m_mine R1) hp)).trans (m_mine R1)) rfl ?_ ?_
    · rintro pl hpl i d acc hi rfl
      unfold nD at hi
      rw [List.getElem?_map] at hi
      obtain ⟨n, hn, rfl⟩ := Option.map_eq_some_iff.mp hi
      walk_at "dl"
      refine LcO.of hpl ?_
      rw [List.take_add_one, hn, List.map_append]
      rfl
    · rintro acc rfl
      rw [nD_len, List.take_length]
      have e : s.mine.map (fun n => vM (.th n)) = (s.mine.map Vl.th).map vM := by rw [List.map_map]; rfl
      rw [e]
      refine h _ S1 (fun v hv => ?_) (by rw [List.length_map]; exact hml) hw1 f1
      obtain ⟨n, hn, rfl⟩ := List.mem_map.mp hv
      exact hmn n hn
  · walk_at "dl"
    refine ⟨w, 6, rfl, hw1, by decide, by decide, fun r2 S2 hr2 hw2 f2 => ?_⟩
    walk_at "dl"
    refine rngOf (by omega) (by omega) ?_
    refine lcOfS (fun i acc S' => ∃ vs : List Vl, acc = vs.map vM ∧ vs.length ≤ i ∧ (∀ v ∈ vs, VOk s.many v) ∧ Well S' w ∧ ∀ y, y ≠ w → S' y = S y) (by rw [rngD_len]; omega) ⟨[], rfl, Nat.le_refl _, fun _ hv => (by cases hv), hw2, fun y hy => (f2 y hy).trans (f1 y hy)⟩ ?_ ?_
    · rintro pl hpl i d acc S3 hi hpl3 ⟨vs, rfl, hvl, hvs, hw3, f3⟩
      have hw3' : Well (put S3 pl (.lst (vs.map vM))) w := hw3.at (put_ne fun z => hw3.live (by rw [z]; exact hpl3))
      have R3 : MRep M x s (put S3 pl (.lst (vs.map vM))) := by
        have R3 := m_keep R hdis f3
        exact ⟨fun {l o} h => by rw [put_ne (sto_ne (R3.at_ h) hpl3)]; exact R3.at_ h, R3.inj⟩
      walk_at "dl"
      refine ⟨w, M, s, rfl, hw3', R3, W, hdis, fun v S4 hv hw4 f4 => ?_⟩
      walk_at "dl"
      obtain ⟨S5, g1, g2, g3, g4⟩ := well_lc hpl3 hw3 hw4 f4
      refine ⟨S5, g1, g2, vs ++ [v], by rw [List.map_append]; rfl, by rw [List.length_append]; exact Nat.succ_le_succ hvl, fun u hu => ?_, g3, fun y hy => (g4 y hy).trans (f3 y hy)⟩
      rcases List.mem_append.mp hu with hu | hu
      · exact hvs u hu
      · rw [List.mem_singleton.mp hu]; exact hv
    · rintro acc S3 ⟨vs, rfl, hvl, hvs, hw3, f3⟩
      rw [rngD_len] at hvl
      exact h vs S3 hvs (by omega) hw3 f3
theorem Lw.bes {k : Nat} {H : HA} {M : ML → Addr} {x : Mx} {s : Hs} {th w : Addr} {S : Sto} (L : Lw CT CH k H M x s th w S) {b : Addr} (hb : S b = none) : Bes CT CH x H M s th b :=
  ⟨fun l hl z => L.h.live hl (by rw [← z]; exact hb), fun l hl z => L.m.live hl (by rw [← z]; exact hb), fun z => by rw [z, L.hth] at hb; cases hb⟩
theorem Lw.putB {k : Nat} {H : HA} {M : ML → Addr} {x : Mx} {s : Hs} {th w : Addr} {S : Sto} (L : Lw CT CH k H M x s th w S) {b : Addr} (hb : Bes CT CH x H M s th b) (hw : b ≠ w) (o : O) : Lw CT CH k H M x s th w (DL.put S b o) :=
  ⟨⟨fun {l o} h => by rw [put_ne (Ne.symm (hb.1 l (nn h)))]; exact L.h.at_ h, L.h.inj⟩, ⟨fun {l o} h => by rw [put_ne (Ne.symm (hb.2.1 l (nn h)))]; exact L.m.at_ h, L.m.inj⟩, L.ap, L.W, L.G, L.row, L.mo, L.kk, by rw [put_ne (Ne.symm hb.2.2)]; exact L.hth, L.wl.at (put_ne (Ne.symm hw)), L.ht, L.hw, L.mt, L.mw, L.lo, L.lm, L.ln⟩
theorem Lw.keepS {k : Nat} {H : HA} {M : ML → Addr} {x : Mx} {s : Hs} {th w : Addr} {S S' : Sto} (L : Lw CT CH k H M x s th w S) (kp : ∀ b, S b ≠ none → S' b = S b) : Lw CT CH k H M x s th w S' :=
  ⟨⟨fun {l o} h => by rw [kp _ (nn (L.h.at_ h))]; exact L.h.at_ h, L.h.inj⟩, ⟨fun {l o} h => by rw [kp _ (nn (L.m.at_ h))]; exact L.m.at_ h, L.m.inj⟩, L.ap, L.W, L.G, L.row, L.mo, L.kk, by rw [kp _ (nn L.hth)]; exact L.hth, L.wl.at (kp _ L.wl.live), L.ht, L.hw, L.mt, L.mw, L.lo, L.lm, L.ln⟩
/-- the hall goes on, then the law's own, what is new meanwhile stays -/
theorem Lw.both {k : Nat} {H H' : HA} {M M' : ML → Addr} {x : Mx} {s s' : Hs} {th w : Addr} {S S1 S1' S2 : Sto} (L : Lw CT CH k H M x s th w S) (T1 : HTr CT CH .non H s S H' s' S1) (kp : Kpt S1 S1') (T2 : MTr M x s S1' M' x s' S2)
    (W : Wf s') (G : Good s') (row : s'.row = none) (mo : ∀ n, s'.mine.count n ≤ s'.outer.count n) (kk : ∀ n, ∀ kv ∈ s'.parts n, kv.1 ∈ K6) (hm : s'.many = s.many) (lo : s'.outer.length ≤ s.outer.length) (lm : s'.mine.length ≤ s.mine.length) :
    Lw CT CH k H' M' x s' th w S2 ∧ (∀ b, S b ≠ none → Bes CT CH x H M s th b → S2 b = S b ∧ Bes CT CH x H' M' s' th b) ∧ (∀ b, S1 b = none → S1' b ≠ none → S2 b = S1' b ∧ Bes CT CH x H' M' s' th b ∧ b ≠ w) := by
  obtain ⟨R1, ap1⟩ := T1.tr.keepR L.m L.ap
  have eth : S1 th = some (.dct (thD H s.many)) := T1.tr.other L.hth L.ht
  have wl1 : Well S1 w := L.wl.at (T1.tr.fr w L.wl.live L.hw)
  have ne1 : ∀ b, S b ≠ none → (∀ l, hC CT CH .non H s l ≠ none → b ≠ H.a l) → ∀ l, hC CT CH .non H' s' l ≠ none → b ≠ H'.a l := fun b hb hn l hl z => by
    rcases T1.tr.ext l hl with ⟨h1, h2⟩ | h1
    · exact hn l h1 (z.trans h2)
    · rw [← z] at h1; exact hb h1
  have hR1' : HRep CT CH .non H' s' S1' := (Kpt.tr T1.rep kp).rep
  have eth' : thD H' s'.many = thD H s.many := by
    unfold thD
    rw [hm]
    exact List.map_congr_left fun i hi => by rw [T1.t (by omega) (by have := List.mem_range.mp hi; omega)]
  obtain ⟨R3, ap3⟩ := T2.keepR hR1' ap1.symm
  have ne2 : ∀ b, S1' b ≠ none → (∀ l, mC M x s l ≠ none → b ≠ M l) → S2 b = S1' b ∧ ∀ l, mC M' x s' l ≠ none → b ≠ M' l := fun b hb hn => ⟨T2.fr b hb hn, fun l hl z => by
    rcases T2.ext l hl with ⟨h1, h2⟩ | h1
    · exact hn l h1 (z.trans h2)
    · rw [← z] at h1; exact hb h1⟩
  have nth1 := nn (kp.at eth)
  obtain ⟨t1, t2⟩ := ne2 th nth1 L.mt
  have wl1' : Well S1' w := wl1.at (kp _ wl1.live)
  obtain ⟨w1, w2⟩ := ne2 w wl1'.live L.mw
  refine ⟨⟨R3, T2.rep, ap3.symm, W, G, row, mo, kk, by rw [t1, kp.at eth, eth'], wl1'.at w1, ne1 th (nn L.hth) L.ht, ne1 w L.wl.live L.hw, t2, w2, by have := L.lo; omega, by have := L.lm; omega, by have := L.ln; omega⟩, fun b hb ⟨b1, b2, b3⟩ => ?_, fun b h0 hb => ?_⟩
  · have e1 : S1 b = S b := T1.tr.fr b hb b1
    have e2 : S1' b = S b := (kp b (by rw [e1]; exact hb)).trans e1
    obtain ⟨c1, c2⟩ := ne2 b (by rw [e2]; exact hb) b2
    exact ⟨c1.trans e2, ne1 b hb b1, c2, b3⟩
  · obtain ⟨c1, c2⟩ := ne2 b hb fun l hl z => R1.live hl (by rw [← z]; exact h0)
    exact ⟨c1, ⟨fun l hl z => T1.rep.live hl (by rw [← z]; exact h0), c2, fun z => by rw [z, eth] at h0; cases h0⟩, fun z => wl1.live (by rw [← z]; exact h0)⟩
/-- the law's own goes on alone -/
theorem Lw.own {k : Nat} {H : HA} {M M' : ML → Addr} {x : Mx} {s : Hs} {th w : Addr} {S S2 : Sto} {mine : List Nat} (L : Lw CT CH k H M x s th w S) (T2 : MTr M x s S M' x { s with mine := mine } S2) (hm : ∀ n, mine.count n ≤ s.mine.count n) (hl : mine.length ≤ s.mine.length) :
    Lw CT CH k H M' x { s with mine := mine } th w S2 ∧ (∀ b, S b ≠ none → Bes CT CH x H M s th b → S2 b = S b ∧ Bes CT CH x H M' { s with mine := mine } th b) := by
  obtain ⟨R3, ap3⟩ := T2.keepR L.h L.ap.symm
  have ne2 : ∀ b, S b ≠ none → (∀ l, mC M x s l ≠ none → b ≠ M l) → S2 b = S b ∧ ∀ l, mC M' x { s with mine := mine } l ≠ none → b ≠ M' l := fun b hb hn => ⟨T2.fr b hb hn, fun l hl z => by
    rcases T2.ext l hl with ⟨h1, h2⟩ | h1
    · exact hn l h1 (z.trans h2)
    · rw [← z] at h1; exact hb h1⟩
  obtain ⟨t1, t2⟩ := ne2 th (nn L.hth) L.mt
  obtain ⟨w1, w2⟩ := ne2 w L.wl.live L.mw
  have W := L.W
  have G := L.G
  refine ⟨⟨R3, T2.rep, ap3.symm, ⟨W.nd, W.tin, W.len, W.most, W.key, W.plen, W.pv, W.wnd, W.win, W.rnd, W.pz, W.az, W.kok⟩, ⟨G.cnt, G.rnd, G.rt, G.rin, G.oin⟩, L.row, fun n => Nat.le_trans (hm n) (L.mo n), L.kk, by rw [t1]; exact L.hth, L.wl.at w1, L.ht, L.hw, t2, w2, L.lo, Nat.le_trans hl L.lm, L.ln⟩, fun b hb ⟨b1, b2, b3⟩ => ?_⟩
  obtain ⟨c1, c2⟩ := ne2 b hb b2
  exact ⟨c1, b1, c2, b3⟩
/-- all that stands when the asker acts -/
structure Zw (CT CH CD : Addr) (k : Nat) (H : HA) (M : ML → Addr) (s : Hs) (th w ar la dx : Addr) (vs : List D) (S : Sto) : Prop where
  L : Lw CT CH k H M ⟨[], false⟩ s th w S
  z : Zs s
  ea : S ar = some (.ins CD dx (heFs (.ref la)))
  el : S la = some (.lst vs)
  ba : Bes CT CH ⟨[], false⟩ H M s th ar
  bl : Bes CT CH ⟨[], false⟩ H M s th la
  na : ar ≠ w
  nl : la ≠ w
theorem Zw.well {k : Nat} {H : HA} {M : ML → Addr} {s : Hs} {th w ar la dx : Addr} {vs : List D} {S S' : Sto} (Z : Zw CT CH CD k H M s th w ar la dx vs S) (hw : Well S' w) (f : ∀ y, y ≠ w → S' y = S y) : Zw CT CH CD k H M s th w ar la dx vs S' :=
  ⟨Z.L.well hw f, Z.z, (f _ Z.na).trans Z.ea, (f _ Z.nl).trans Z.el, Z.ba, Z.bl, Z.na, Z.nl⟩
theorem res_lst {S : Sto} {a : Addr} {ds : List D} (h : S a = some (.lst ds)) : res S (.ref a) = .list ds := by
  unfold res
  simp only [h]
theorem deep_nats {l : List Nat} : (D.list (nD l)).deep ≤ 64 := by
  have : deepL (nD l) ≤ 1 := (deepL_le _).mpr fun d hd => by
    obtain ⟨j, _, rfl⟩ := List.mem_map.mp hd
    exact Nat.zero_le _
  rw [D.deep]
  omega
section
variable {k : Nat} {H : HA} {M : ML → Addr} {s : Hs} {th w ar la dx : Addr} {vs : List D} {S S' : Sto}
theorem Zw.set (Z : Zw CT CH CD k H M s th w ar la dx vs S) (us : List D) : Zw CT CH CD k H M s th w ar la dx us (DL.put S la (.lst us)) :=
  ⟨Z.L.putB Z.bl Z.nl _, Z.z, (put_ne fun z => by have := Z.ea; rw [z, Z.el] at this; cases this).trans Z.ea, put_same, Z.ba, Z.bl, Z.na, Z.nl⟩
theorem Zw.putB (Z : Zw CT CH CD k H M s th w ar la dx vs S) {b : Addr} (hb : Bes CT CH ⟨[], false⟩ H M s th b) (hw : b ≠ w) (h1 : b ≠ ar) (h2 : b ≠ la) (o : O) : Zw CT CH CD k H M s th w ar la dx vs (DL.put S b o) :=
  ⟨Z.L.putB hb hw _, Z.z, (put_ne (Ne.symm h1)).trans Z.ea, (put_ne (Ne.symm h2)).trans Z.el, Z.ba, Z.bl, Z.na, Z.nl⟩
theorem Zw.keepS (Z : Zw CT CH CD k H M s th w ar la dx vs S) (kp : Kpt S S') : Zw CT CH CD k H M s th w ar la dx vs S' :=
  ⟨Z.L.keepS kp, Z.z, kp.at Z.ea, kp.at Z.el, Z.ba, Z.bl, Z.na, Z.nl⟩
theorem Zw.mono (Z : Zw CT CH CD k H M s th w ar la dx vs S) {k' : Nat} (h : k ≤ k') : Zw CT CH CD k' H M s th w ar la dx vs S := ⟨Z.L.mono h, Z.z, Z.ea, Z.el, Z.ba, Z.bl, Z.na, Z.nl⟩
end
theorem ok_law {fa : Addr} {fd : FuncData} (F : Fun K "law" "law" s_law fa fd) (T : TxW K mg CT CH CD) (G_mk_Hall : MkDef P w K mg base 1 "Hall" CH ["self", "ender"] (lSp K (dHaInit CH))) (G_mk_Held : MkDef P w K mg base 1 "Held" CD ["self", "values"] (lSp K (dHeInit CD))) (G__law_well : DefD P w K mg base 1 "_law_well" ["_law_script", "_law_first"] dWell) (G__law_dig : DefD P w K mg base 2 "_law_dig" ["_law_well_here", "_law_most"] dDig)
    (G__law_model : DefD P w K mg base 1 "_law_model" ["_law_ender"] dModel) (G__law_begun : DefD P w K mg base 4 "_law_begun" ["_law_well_here", "_law_m", "_law_many"] dBegun) (G__law_do : DefD P w K mg base 10 "_law_do" ["_law_hall", "_law_things", "_law_m", "_law_deed"] (dDo CT CH ⟨[], false⟩)) (G__law_some : DefD P w K mg base 4 "_law_some" ["_law_well_here", "_law_m"] (dSome ⟨[], false⟩)) (G__law_alike : DefD P w K mg base 2 "_law_alike" ["_law_hall", "_law_things", "_law_m"] (dAlike CT CH .non))
    (G__law_values : DefD P w K mg base 4 "_law_values" ["_law_well_here", "_law_m"] (dValues ⟨[], false⟩)) (G__law_as : DefD P w K mg base 1 "_law_as" ["_law_things", "_law_value_here"] dAs) (G_heldN : MDef P w K mg base 1 CD "held" ["self"] (lSp K (dHeldN CD))) (G_swept : DefD P w K mg base 8 "swept" ["hall", "around"] (dSwept CT CH CD .non askNo)) (G__law_swept : DefD P w K mg base 5 "_law_swept" ["_law_m", "_law_values_here"] (dSweptM askNo (fun _ => 0) ⟨[], false⟩)) :
    FnOk P w K mg base CX0 11 fa fd ["_law_script"] (lSp K dLaw) := by
  refine dok F sc_law (fun ds S q qx ⟨ns, e, _⟩ => by rw [e]; rfl) ⟨_, fun cdv A outer s H E hr => dss_cons (ds_set (i := 1) sc_law.nd rfl (Or.inl rfl) (de_call G__law_well (hr.mono (by decide)) (by rfl) (da_cons (de_var 0) (da_cons (de_int) da_nil))))
      (dss_cons (ds_set (i := 2) sc_law.nd rfl (Or.inl rfl) (de_make G_mk_Hall (hr.mono (by decide)) (by rfl) (da_cons (de_non) da_nil)))
      (dss_cons (ds_set (i := 3) sc_law.nd rfl (Or.inr rfl) (de_call G__law_model (hr.mono (by decide)) (by rfl) (da_cons (de_bl) da_nil)))
      (dss_cons (ds_set (i := 4) sc_law.nd rfl (Or.inr rfl) (de_newD))
      (dss_cons (ds_for PassesOwn.never rfl (di_list (K := K) (de_call G__law_begun (hr.mono (by decide)) (by rfl) (da_cons (de_var 1) (da_cons (de_var 3) (da_cons (de_op op_add si_add (de_int) (de_call G__law_dig (hr.mono (by decide)) (by rfl) (da_cons (de_var 1) (da_cons (de_int) da_nil)))) da_nil))))) (dg_name (i := 5) sc_law.nd rfl (Or.inl rfl))
        (dss_one (ds_expr (de_call G__law_do (hr.mono (by decide)) (by rfl) (da_cons (de_var 2) (da_cons (de_var 4) (da_cons (de_var 3) (da_cons (de_var 5) da_nil))))))))
      (dss_cons (ds_set (i := 6) sc_law.nd rfl (Or.inl rfl) (de_make G_mk_Held (hr.mono (by decide)) (by rfl) (da_cons (de_lst (da_nil)) da_nil)))
      (dss_cons (ds_for PassesOwn.never rfl (di_range1 (by rfl) T.range (da_cons (de_op op_add si_add (de_int) (de_call G__law_dig (hr.mono (by decide)) (by rfl) (da_cons (de_var 1) (da_cons (de_int) da_nil)))) da_nil)) (dg_name (i := 7) sc_law.nd rfl (Or.inl rfl))
        (dss_cons (ds_for PassesOwn.never rfl (di_range1 (by rfl) T.range (da_cons (de_call G__law_dig (hr.mono (by decide)) (by rfl) (da_cons (de_var 1) (da_cons (de_int) da_nil))) da_nil)) (dg_name (i := 8) sc_law.nd rfl (Or.inl rfl))
          (dss_cons (ds_set (i := 5) sc_law.nd rfl (Or.inl rfl) (de_call G__law_some (hr.mono (by decide)) (by rfl) (da_cons (de_var 1) (da_cons (de_var 3) da_nil))))
          (dss_one (ds_expr (de_call G__law_do (hr.mono (by decide)) (by rfl) (da_cons (de_var 2) (da_cons (de_var 4) (da_cons (de_var 3) (da_cons (de_var 5) da_nil)))))))))
        (dss_cons (ds_set (i := 9) sc_law.nd rfl (Or.inl rfl) (de_call G__law_values (hr.mono (by decide)) (by rfl) (da_cons (de_var 1) (da_cons (de_var 3) da_nil))))
        (dss_cons (ds_expr (de_ml0 PySem.F.slot_list_clear PySem.F.type_list_clear mt_clear si_clr (de_fld T.Held_ (by decide +kernel) (de_var 6))))
        (dss_cons (ds_expr (de_ml PySem.F.slot_list_extend PySem.F.type_list_extend mt_extend si_ext (de_fld T.Held_ (by decide +kernel) (de_var 6)) (da_cons (de_lc (own := [("_law_value_here", 11)]) (gc_name (j := 11) (by decide)) rfl sc_law.nd (di_list (K := K) (de_var 9)) (blkOk_by (N := N_law) (sc := defScope s_law) (by decide +kernel)) (fun _ _ _ _ _ => pg_name (i := 11) sc_law.nd rfl (Or.inl rfl)) (fun _ _ _ _ _ => dts_nil) (fun _ _ _ _ _ => de_call G__law_as (hr.mono (by decide)) (by rfl) (da_cons (de_var 4) (da_cons (de_var 11) da_nil)))) da_nil)))
        (dss_cons (ds_expr (de_ml0 PySem.F.slot_list_clear PySem.F.type_list_clear mt_clear si_clr (de_meth0 T.Held_ G_heldN (hr.mono (by decide)) (de_var 6))))
        (dss_cons (ds_set (i := 10) sc_law.nd rfl (Or.inl rfl) (de_call G_swept (hr.mono (by decide)) (by rfl) (da_cons (de_var 2) (da_cons (de_var 6) da_nil))))
        (dss_cut (ds_if (PW.pt (dw_or (dt_not (dt_val (de_callB (clIsi' (K := K)) si_isi (by rfl) T.isinstance (by decide +kernel) (da_cons (de_var 10) (da_cons (de_blt (n := "list") (by rfl) T.list (by decide +kernel)) da_nil))))) (dw_or1 (dt_cmp (op_neM (K := K) hr.units) (si_eqA true) (de_var 10) (de_call G__law_swept (hr.mono (by decide)) (by rfl) (da_cons (de_var 3) (da_cons (de_var 9) da_nil))) (nomark _)))))
          (dss_one (ds_ret (de_bl)))
          (dss_nil))
        (dss_cons (ds_expr (de_ml PySem.F.slot_list_append PySem.F.type_list_append mt_append si_app (de_var 10) (da_cons (de_neg (de_int)) da_nil)))
        (dss_cons (ds_dput (hu_of hr) (de_var 3) (de_str) (de_lcSN (own := [("_law_n", 12)]) (gc_name (j := 12) (by decide)) rfl sc_law.nd (di_stl (K := K) (de_dget (hu_of hr) (de_var 3) (de_str) (fun _ _ => rfl))) (blkOk_by (N := N_law) (sc := defScope s_law) (by decide +kernel)) (fun _ _ _ _ _ => pg_name (i := 12) sc_law.nd rfl (Or.inl rfl)) (fun _ _ _ _ _ => dts_one (dt_din (hu_of hr) (de_var 12) (de_dget (hu_of hr) (de_var 3) (de_str) (fun _ _ => rfl)))) (fun _ _ _ _ _ => de_var 12)))
        (dss_one (ds_if (dt_not (dt_val (de_call G__law_alike (hr.mono (by decide)) (by rfl) (da_cons (de_var 2) (da_cons (de_var 4) (da_cons (de_var 3) da_nil))))))
          (dss_one (ds_ret (de_bl)))
          (dss_nil)))))))))))))
      (dss_one (ds_ret (de_bl))))))))), fun ds S q qx ⟨ns, hd, hl, h⟩ => ?_⟩
  subst hd
  walk_at "dl"
  refine ⟨ns, 0, rfl, hl, fun w S1 _ hw1 f1 => ?_⟩
  walk_at "dl"
  refine freshOf fun hl n1 dx => ?_
  refine ⟨hl, dx, .non, rfl, put_same, fun th lf S2 t1 t2 t3 e1 e2 e3 fr => ⟨rfl, ?_⟩⟩
  have nth : th ≠ hl := fun z => by rw [z, put_same] at t1; cases t1
  have nlf : lf ≠ hl := fun z => by rw [z, put_same] at t2; cases t2
  rw [put_ne nth] at t1
  rw [put_ne nlf] at t2
  have g1 : ∀ {a : Addr}, S1 a ≠ none → S2 a = S1 a := fun {a} h => by
    have h1 : a ≠ hl := fun z => h (by rw [z]; exact n1)
    rw [fr a (fun z => h (by rw [z]; exact t1)) (fun z => h (by rw [z]; exact t2)) h1, put_ne h1]
  have well_keep : ∀ {S S' : Sto}, Well S w → (∀ {a : Addr}, S a ≠ none → S' a = S a) → Well S' w := fun ⟨a, b, c, d, cs, g, r⟩ h => ⟨a, b, c, d, cs, by rw [h (by rw [g]; exact nofun)]; exact g, r⟩
  have hw2 := well_keep hw1 g1
  have R2 : HRep CT CH .non (H0 hl th lf dx) s0 S2 := hrep0 e1 e2 e3
  walk_at "dl"
  refine ⟨false, rfl, fun M S3 RM dis kp => ?_⟩
  walk_at "dl"
  refine freshOf fun tt ht => ?_
  walk_at "dl"
  have hw3 := well_keep hw2 (fun {a} h => kp a h)
  have ne3 : ∀ {a : Addr}, S3 a ≠ none → a ≠ tt := fun h z => h (by rw [z]; exact ht)
  have R3 : HRep CT CH .non (H0 hl th lf dx) s0 S3 := ⟨fun {l o} h => by rw [kp _ (by rw [R2.at_ h]; exact nofun)]; exact R2.at_ h, R2.inj⟩
  have wh : ∀ {a : Addr} {o : O}, S3 a = some o → (∀ ds, o ≠ .lst ds) → w ≠ a := fun h h1 z => by
    obtain ⟨_, _, _, _, _, g, _⟩ := hw3
    rw [z, h] at g
    injection g with g
    exact h1 _ g
  have wold : S1 w ≠ none := by obtain ⟨_, _, _, _, _, g, _⟩ := hw1; rw [g]; exact nofun
  have wold2 : S2 w ≠ none := by rw [g1 wold]; exact wold
  have L0 : Lw CT CH 0 (H0 hl th lf dx) M ⟨[], false⟩ s0 tt w (put S3 tt (.dct [])) := by
    refine ⟨⟨fun {l o} h => by rw [put_ne (ne3 (by rw [R3.at_ h]; exact nofun))]; exact R3.at_ h, R3.inj⟩, ⟨fun {l o} h => by rw [put_ne (ne3 (by rw [RM.at_ h]; exact nofun))]; exact RM.at_ h, RM.inj⟩, fun l l' h h' z => ?_, s0_wf, s0_good, rfl, fun _ => Nat.le_refl _, fun _ _ h => (by cases h), put_same, ?_, fun l hl z => ?_, fun l hl z => ?_, fun l hl z => ?_, fun l hl z => ?_, Nat.le_refl _, Nat.le_refl _, Nat.le_refl _⟩
    · have := dis l' h'
      rw [← z] at this
      exact R2.live h this
    · obtain ⟨a, b, c, d, cs, g, r⟩ := hw3
      exact ⟨a, b, c, d, cs, by rw [put_ne (ne3 (by rw [g]; exact nofun))]; exact g, r⟩
    · exact R3.live hl (by rw [← z]; exact ht)
    · obtain ⟨o, _, ho⟩ := R2.get hl
      cases l with
      | hall => have e1' : S2 w = _ := (congrArg S2 z).trans e1; obtain ⟨_, _, _, _, _, g, _⟩ := hw2; rw [e1'] at g; cases g
      | th => exact wold (by rw [z]; exact t1)
      | lf => exact wold (by rw [z]; exact t2)
      | row => exact hl rfl
      | t n => exact hl (if_neg fun h => by have : s0.many = 0 := rfl; omega)
      | pd n => exact hl (if_neg fun h => by have : s0.many = 0 := rfl; omega)
    · exact RM.live hl (by rw [← z]; exact ht)
    · exact wold2 (by rw [z]; exact dis l hl)
  have hM : M .m = M .m := rfl
  refine ⟨w, 12, rfl, L0.wl, by decide, by decide, fun r S4 hr hw4 f4 => ?_⟩
  have L1 := L0.well hw4 f4
  walk_at "dl"
  refine ⟨w, .ref (M .m), 1 + r, by rw [show ((1 + r : Nat) : Int) = 1 + (r : Int) by omega], hw4, by omega, by omega, fun dl S5 hbg hdl hw5 f5 => ?_⟩
  have L2 := L1.well hw5 f5
  walk_at "dl"
  have z0 : Zs s0 := ⟨⟨fun i hi => (by cases hi), fun _ _ _ => rfl, fun n h1 h2 => (by have h2 : n ≤ 0 := h2; omega)⟩, rfl, rfl, rfl, fun n hn => (by cases hn)⟩
  refine forOf (fun i δ S' => (∃ H' M' s', Lw CT CH i H' M' ⟨[], false⟩ s' tt w S' ∧ Zs s' ∧ H'.a .hall = hl ∧ M' .m = M .m) ∧ ∃ z5, δ = [some (.scr (ns.map D.int)), some (.ref w), some (.ref hl), some (.ref (M .m)), some (.ref tt),  z5, none, none, none, none, none, none, none]) ⟨⟨_, M, s0, L2, z0, rfl, rfl⟩, _, rfl⟩ ?_ ?_
  · rintro i d δ S' hi ⟨⟨H', M', s', L, z, eh, em⟩, z5, rfl⟩
    have hlt := (List.getElem?_eq_some_iff.mp hi).1
    rw [List.length_map] at hlt
    rw [List.getElem?_map] at hi
    obtain ⟨dd, hdd, rfl⟩ := Option.map_eq_some_iff.mp hi
    have hb := hbg dd (List.mem_of_getElem? hdd)
    walk_at "dl"
    refine ⟨i, H', M', s', tt, w, dd, by rw [eh, em], L, by omega, fun n k v e => by subst e; exact hb, fun n e => by subst e; exact hb.elim, fun n k e => by subst e; exact hb.elim, fun n k e => by subst e; exact hb.elim, fun H2 M2 s2 S2' eh2 em2 hst _ L' => ?_⟩
    walk_at "dl"
    refine ⟨⟨H2, M2, s2, L', ?_, eh2.trans eh, em2.trans em⟩, _, rfl⟩
    rcases hst with rfl | ⟨ok, hth, r⟩
    · exact z
    · exact z.step L.W L.G ok hth r
  rintro δ S' ⟨⟨H', M', s', L, z, eh, em⟩, z5, rfl⟩
  rw [List.length_map] at L
  have L := L.mono hdl
  walk_at "dl"
  refine freshOf fun ar n1 dxa => ?_
  refine ⟨ar, dxa, [], rfl, by decide, put_same, fun la n2 => ⟨rfl, ?_⟩⟩
  have nla : la ≠ ar := fun z => by rw [z, put_same] at n2; cases n2
  rw [put_ne nla] at n2
  have kp : Kpt S' (put (put (put S' ar (.ins CD dxa [])) la (.lst [])) ar (.ins CD dxa (heFs (.ref la)))) := ((Kpt.refl.put n1 _).put n2 _).put n1 _
  have Z0 : Zw CT CH CD 100 H' M' s' tt w ar la dxa [] (put (put (put S' ar (.ins CD dxa [])) la (.lst [])) ar (.ins CD dxa (heFs (.ref la)))) :=
    ⟨L.keepS kp, z, put_same, (put_ne nla).trans put_same, L.bes n1, L.bes n2, fun z => L.wl.live (by rw [← z]; exact n1), fun z => L.wl.live (by rw [← z]; exact n2)⟩
  generalize put (put (put S' ar (.ins CD dxa [])) la (.lst [])) ar (.ins CD dxa (heFs (.ref la))) = S6 at Z0
  walk_at "dl"
  refine ⟨w, 6, rfl, Z0.L.wl, by decide, by decide, fun r2 S7 hr2 hw7 f7 => ?_⟩
  have Z1 := Z0.well hw7 f7
  walk_at "dl"
  refine rngOf (by omega) (by omega) ?_
  refine forOf (fun i δ S' => ∃ H' M' s' vs z5 z7 z8 z9 z10, Zw CT CH CD (100 + 10 * i) H' M' s' tt w ar la dxa vs S' ∧ H'.a .hall = hl ∧ M' .m = M .m ∧ δ = [some (.scr (ns.map D.int)), some (.ref w), some (.ref hl), some (.ref (M .m)), some (.ref tt),  z5, some (.ref ar), z7, z8, z9, z10, none, none]) ⟨H', M', s', [], _, _, _, _, _, Z1, eh, em, rfl⟩ ?_ ?_
  · rintro i d δ S8 hi ⟨H', M', s', vs, z5, z7, z8, z9, z10, Z, eh, em, rfl⟩
    obtain ⟨rfl, hin⟩ := rngD_get hi
    walk_at "dl"
    refine ⟨w, 9, rfl, Z.L.wl, by decide, by decide, fun r3 S9 hr3 hw9 f9 => ?_⟩
    have Z := Z.well hw9 f9
    walk_at "dl"
    refine rngOf (by omega) (by omega) ?_
    refine forOf (fun j δ S' => ∃ H' M' s' vs z5 z8, Zw CT CH CD (100 + 10 * i + j) H' M' s' tt w ar la dxa vs S' ∧ H'.a .hall = hl ∧ M' .m = M .m ∧ δ = [some (.scr (ns.map D.int)), some (.ref w), some (.ref hl), some (.ref (M .m)), some (.ref tt),  z5, some (.ref ar), some (.int (0 + (i : Int))), z8, z9, z10, none, none]) ⟨H', M', s', vs, _, _, Z, eh, em, rfl⟩ ?_ ?_
    · rintro j d δ S' hj ⟨H', M', s', vs, z5, z8, Z, eh, em, rfl⟩
      obtain ⟨rfl, hjn⟩ := rngD_get hj
      have L := Z.L
      walk_at "dl"
      refine ⟨w, M', s', by rw [em], L.wl, L.m, L.W, by have := L.lm; omega, fun l hl => Ne.symm (L.mw l hl), fun dd S7 hpre hw7 f7 => ?_⟩
      have Z := Z.well hw7 f7
      walk_at "dl"
      refine ⟨100 + 10 * i + j, H', M', s', tt, w, dd, by rw [eh, em], Z.L, by omega, fun n k v e => by subst e; exact ⟨hpre.2.1, fun y hy => by subst hy; exact hpre.2.2⟩, fun n e => by subst e; exact hpre, fun n k e _ => by subst e; exact hpre.2, fun n k e => by subst e; exact hpre.elim, fun H2 M2 s2 S8 eh2 em2 hst hbs L5 => ?_⟩
      obtain ⟨a1, a2⟩ := hbs ar (nn Z.ea) Z.ba
      obtain ⟨b1, b2⟩ := hbs la (nn Z.el) Z.bl
      walk_at "dl"
      refine ⟨H2, M2, s2, vs, _, _, ⟨L5, ?_, a1.trans Z.ea, b1.trans Z.el, a2, b2, Z.na, Z.nl⟩, eh2.trans eh, em2.trans em, rfl⟩
      rcases hst with rfl | ⟨ok, hth, r⟩
      · exact Z.z
      · exact Z.z.step Z.L.W Z.L.G ok hth r
    rintro δ S' ⟨H', M', s', vs, z5, z8, Z, eh, em, rfl⟩
    rw [rngD_len] at Z
    have L := Z.L
    walk_at "dl"
    refine ⟨w, M', s', by rw [em], L.wl, L.m, L.W, Z.z.mn, by have := L.lm; omega, fun l hl => Ne.symm (L.mw l hl), fun vs1 S9 hv1 hvl1 hw9 f9 => ?_⟩
    have Z := Z.well hw9 f9
    walk_at "dl"
    refine fldOf Z.ea he_has ?_
    walk_at "dl"
    refine needOf (isLOf Z.el) ?_
    walk_at "dl"
    refine clrOf Z.el ?_
    have Z := Z.set []
    generalize put S9 la (.lst []) = S10 at Z
    walk_at "dl"
    refine fldOf Z.ea he_has ?_
    walk_at "dl"
    refine needOf (isLOf Z.el) ?_
    walk_at "dl"
    refine lcOf (fun i acc => acc = (vs1.take i).map (vD H')) (by rw [List.length_map]; omega) rfl ?_ ?_
    · rintro pl hpl i d acc hi rfl
      rw [List.getElem?_map] at hi
      obtain ⟨v, hv, rfl⟩ := Option.map_eq_some_iff.mp hi
      walk_at "dl"
      refine ⟨H', s'.many, tt, v, rfl, (put_ne (sto_ne Z.L.hth hpl)).trans Z.L.hth, hv1 v (List.mem_of_getElem? hv), ?_⟩
      refine LcO.of hpl ?_
      rw [List.take_add_one, hv, List.map_append]
      rfl
    rintro acc rfl
    rw [List.length_map, List.take_length]
    walk_at "dl"
    refine extOf Z.el (by rw [List.length_map]; simp; omega) ?_
    rw [List.nil_append]
    have Z := Z.set (vs1.map (vD H'))
    generalize put S10 la (.lst (vs1.map (vD H'))) = S11 at Z
    walk_at "dl"
    refine needOf (methOf (x := .non) Z.ea rfl) ?_
    walk_at "dl"
    refine ⟨ar, dxa, la, _, rfl, Z.ea, Z.el, fun pp hpp => ?_⟩
    walk_at "dl"
    refine needOf (isLOf put_same) ?_
    walk_at "dl"
    refine clrOf put_same ?_
    rw [put_put]
    have Z := Z.keepS (Kpt.refl.put hpp (.lst []))
    generalize put S11 pp (.lst []) = S12 at Z
    have L := Z.L
    have p6 : ∀ n, (s'.parts n).length ≤ 6 := fun n => keys_len (L.W.key n) (L.kk n)
    have hsz : Sz s' := by
      have h1 : msum (fun n => (ledP s' n).length + 1) s'.many ≤ msum (fun _ => 7) s'.many := msum_le fun n => by
        unfold ledP
        rw [List.length_map]
        have := p6 n
        omega
      have e2 : ∀ a, msum (fun _ => 7) a = 7 * a := fun a => by
        induction a with
        | zero => rfl
        | succ a ih => unfold msum; rw [ih]; omega
      rw [e2] at h1
      have := L.ln
      show _ ≤ 80000
      omega
    have eA : ∀ l1 s1, AskAll askNo (s'.ups l1) l1 s1 → s1 = s'.ups l1 := fun l1 s1 a => by
      have : ∀ {s s1 : Hs} {l : List Nat}, AskAll askNo s l s1 → s1 = s := fun a => by
        induction a with
        | nil => rfl
        | cons _ h _ ih => rw [ih]; exact h
      exact this a
    have heb : ∀ i, s'.ends.count i ≤ s'.outer.count i := fun i => by rw [Z.z.ends]; exact Nat.zero_le _
    obtain ⟨lost, s2, hsw⟩ := swept_ex (rs := vs1) L.W L.G L.row Z.z.lasts
    obtain ⟨W2, G2, C2, r2e, l2e, row2, _⟩ := hsw.keep askNo_cl L.W L.G Z.z.C Z.z.rest L.row heb
    have K2 := swept_no hsw L.W L.G
    walk_at "dl"
    refine ⟨H', s', ar, dxa, la, vs1, lost, s2, by rw [eh], L.h, ⟨Z.ea, Z.el, Z.ba.1, Z.bl.1⟩, L.W, L.G, Z.z.C, Z.z.rest, heb, hv1, hvl1, hsz, fun l1 s1 a => by rw [eA l1 s1 a]; exact hsz.parts (ups_rest l1 s').2.1 (ups_rest l1 s').2.2.2.2.1, hsw, fun H2 S13 pn T1 hpn => ?_⟩
    have kpn : Kpt S13 (put S13 pn (.lst (lost.map fun n : Nat => .int (n : Int)))) := Kpt.refl.put hpn _
    have epn : put S13 pn (.lst (lost.map fun n : Nat => .int (n : Int))) pn = some (.lst (lost.map fun n : Nat => .int (n : Int))) := put_same
    generalize put S13 pn (.lst (lost.map fun n : Nat => .int (n : Int))) = S14 at kpn epn
    have RM : MRep M' ⟨[], false⟩ s' S14 := by
      obtain ⟨R1, _⟩ := T1.tr.keepR L.m L.ap
      exact ⟨fun {l o} e => kpn.at (R1.at_ e), R1.inj⟩
    walk_at "dl"
    refine cutOf (fun δ S' => ∃ H2 M2 s2 lost vs, Zw CT CH CD (100 + 10 * i + 9) H2 M2 s2 tt w ar la dxa vs S' ∧ H2.a .hall = hl ∧ M2 .m = M .m ∧ lost.length ≤ 5000 ∧ S' pn = some (.lst (nD lost)) ∧ Bes CT CH ⟨[], false⟩ H2 M2 s2 tt pn ∧ pn ≠ w ∧ pn ≠ ar ∧ pn ≠ la ∧ δ = [some (.scr (ns.map D.int)), some (.ref w), some (.ref hl), some (.ref (M .m)), some (.ref tt),  z5, some (.ref ar), some (.int (0 + (i : Int))), z8, some (.list (vs1.map vM)), some (.ref pn), none, none]) ?_ ?_
    · walk_at "dl"
      rw [x_isiR epn (by decide)]
      walk_at "dl"
      refine ⟨M', s', vs1, lost, s2, by rw [em], RM, L.W, L.G, Z.z.C, Z.z.rest, L.row, Z.z.lasts, heb, hv1, hvl1, fun n => by have := p6 n; omega, fun l1 s1 a n => by rw [eA l1 s1 a, (ups_rest l1 s').2.1]; have := p6 n; omega, by have := L.lo; show _ + 0 ≤ _; omega, hsw, fun M2 S15 T2 => ?_⟩
      obtain ⟨L2, hb2, hn2⟩ := L.both T1 kpn T2 W2 G2 row2 (fun n => by rw [K2.mine, K2.out]; exact L.mo n) (fun n kv hk => L.kk n kv ((K2.shr n).mem hk)) K2.many (by rw [K2.len]; exact Nat.le_refl _) (by rw [K2.mine]; exact Nat.le_refl _)
      obtain ⟨n1, n2, n3⟩ := hn2 pn hpn (nn epn)
      have epn2 : S15 pn = some (.lst (nD lost)) := n1.trans epn
      obtain ⟨a1, a2⟩ := hb2 ar (nn Z.ea) Z.ba
      obtain ⟨b1, b2⟩ := hb2 la (nn Z.el) Z.bl
      have hlost : lost.length ≤ 5000 := by
        cases hsw with
        | busy hb => exact Nat.zero_le _
        | mk l0 r0 L0 AA L1 ht W1 =>
          have h1 := perm_len (L1.srt.imp fun h e => by omega) fun n hn => L.W.tin n ((L0.mem n).mp ((L1.mem n).mp hn).1).1
          have h2 := L.W.most
          omega
      walk_at "dl"
      refine neASame (p' := .list (nD lost)) (res_lst epn2) rfl (nat_any _) deep_nats ?_
      walk_at "dl"
      refine ⟨H2, M2, s2, lost, _, ⟨L2.mono (by omega), ⟨C2, r2e, l2e.trans Z.z.lasts, ?_, fun n hn => ?_⟩, a1.trans Z.ea, b1.trans Z.el, a2, b2, Z.na, Z.nl⟩, (T1.hall).trans eh, (MTr.m T2).trans em, hlost, epn2, n2, n3, ?_, ?_⟩
      · rw [K2.ends]; exact Z.z.ends
      · rw [K2.mine] at hn
        rw [K2.many]
        exact Z.z.mn n hn
      · exact fun z => nn Z.ea (by
          have := T1.tr.fr ar (nn Z.ea) Z.ba.1
          rw [← z] at this ⊢
          rw [← this]; exact hpn)
      · exact fun z => nn Z.el (by
          have := T1.tr.fr la (nn Z.el) Z.bl.1
          rw [← z] at this ⊢
          rw [← this]; exact hpn)
    · rintro δ S15 ⟨H3, M3, s3, lost3, vs3, Z, eh3, em3, hll3, en, bn, nw, nar, nla, rfl⟩
      walk_at "dl"
      refine needOf (isLOf en) ?_
      walk_at "dl"
      refine appOf en (by rw [nD_len]; omega) ?_
      have Z := Z.putB bn nw nar nla (.lst (nD lost3 ++ [.int (-1)]))
      generalize put S15 pn (.lst (nD lost3 ++ [.int (-1)])) = S16 at Z
      have L := Z.L
      have hm := m_m L.m
      rw [em3] at hm
      walk_at "dl"
      refine dgetOf hm rfl mg_mine ?_
      walk_at "dl"
      refine slOf (m_mine L.m) ?_
      refine lcSNOf (fun i acc => acc = nD ((s3.mine.take i).filter fun n => decide (n ∈ s3.there))) (by rw [nD_len]; have := L.lm; omega) (fun p acc hp => (put_ne (sto_ne (m_mine L.m) hp)).trans (m_mine L.m)) rfl ?_ ?_
      · rintro pl hpl i d acc hi rfl
        unfold nD at hi
        rw [List.getElem?_map] at hi
        obtain ⟨n, hn, rfl⟩ := Option.map_eq_some_iff.mp hi
        have etk : (s3.mine.take (i + 1)).filter (fun n => decide (n ∈ s3.there)) = (s3.mine.take i).filter (fun n => decide (n ∈ s3.there)) ++ if decide (n ∈ s3.there) = true then [n] else [] := by
          rw [List.take_add_one, hn, List.filter_append]
          congr 1
          show List.filter _ [n] = _
          rw [List.filter_cons]
          rfl
        walk_at "dl"
        refine dgetOf ((put_ne (sto_ne hm hpl)).trans hm) rfl mg_parts ?_
        walk_at "dl"
        refine dinOf ((put_ne (sto_ne (m_parts L.m) hpl)).trans (m_parts L.m)) rfl ?_
        rw [plD_isSome]
        walk_at "dl"
        refine br (fun hb => ?_) (fun hb => ?_)
        · walk_at "dl"
          refine LcO.of hpl ?_
          rw [etk, if_pos hb, ← nD_snoc]
        · refine LcO.of hpl ?_
          rw [etk, if_neg (by rw [hb]; exact nofun), List.append_nil]
      rintro acc pm hpm rfl
      rw [nD_len, List.take_length]
      walk_at "dl"
      refine dputOf ((put_ne (sto_ne hm hpm)).trans hm) rfl (show 14 < 100000 by decide) ?_
      have T := MTr.mineNew L.m hpm (s3.mine.filter fun n => decide (n ∈ s3.there))
      rw [em3] at T
      obtain ⟨L4, hb4⟩ := L.own T (fun n => List.Sublist.count_le n List.filter_sublist) (List.length_filter_le ..)
      obtain ⟨a1, a2⟩ := hb4 ar (nn Z.ea) Z.ba
      obtain ⟨b1, b2⟩ := hb4 la (nn Z.el) Z.bl
      have em4 : (fun y => if y = ML.mine then pm else M3 y) .m = M .m := em3
      have Z4 : Zw CT CH CD (100 + 10 * i + 9) H3 _ { s3 with mine := s3.mine.filter fun n => decide (n ∈ s3.there) } tt w ar la dxa vs3 _ := ⟨L4, ⟨Z.z.C.congr rfl rfl (fun _ h => h) rfl rfl, Z.z.rest, Z.z.lasts, Z.z.ends, fun n hn => Z.z.mn n (List.mem_filter.mp hn).1⟩, a1.trans Z.ea, b1.trans Z.el, a2, b2, Z.na, Z.nl⟩
      generalize put (put S16 pm (.lst (nD (s3.mine.filter fun n => decide (n ∈ s3.there))))) (M .m) (.dct (gput (mKvs M3 ⟨[], false⟩ s3.many (rowM M3 s3.row) s3.lasts) (.inr "mine") (.ref pm))) = S17 at Z4
      generalize (fun y => if y = ML.mine then pm else M3 y) = M4 at Z4 em4
      have L5 := Z4.L
      walk_at "dl"
      refine ⟨H3, M4, ⟨[], false⟩, _, tt, _, by rw [eh3, em4], L5.h, L5.m, L5.W, L5.G, by rw [← thD_thL]; exact L5.hth, kn_all _, L5.ht, L5.kk, L5.ap, fun p o hp => ?_⟩
      have Z6 := Z4.keepS (Kpt.refl.put hp o)
      walk_at "dl"
      exact ⟨H3, M4, _, vs3, _, _, _, _, _, Z6.mono (by omega), eh3, em4, rfl⟩
  · rintro δ S8 ⟨H', M', s', vs, z5, z7, z8, z9, z10, Z, eh, em, rfl⟩
    walk_at "dl"
    exact h _
end
end K

set_option Elab.async false
set_option linter.all false
set_option maxRecDepth 100000
namespace K
open PySem L2 Evl EX
section
set_option maxHeartbeats 0 in
theorem all_mk {l : PySem.W.OpenLaw} {w : World} {K : PySem.W.Frag} {h : Heap} {mg : Str → Option Value} {fa : Addr} (X : K.In h) (G : h.Ns mainGlobals mg) (hfa : mg "law" = some (.ref fa))
    {f1 : Addr} {od1 an1 : Option Addr} {sl1 : Array (Option Value)} {oc1 kV1 dc1 pm1 cd1 ct1 : Value}
    {f2 : Addr} {od2 an2 : Option Addr} {sl2 : Array (Option Value)} {oc2 kV2 dc2 pm2 cd2 ct2 : Value}
    {f3 : Addr} {od3 an3 : Option Addr} {sl3 : Array (Option Value)} {oc3 kV3 dc3 pm3 cd3 ct3 : Value}
    {f4 : Addr} {od4 an4 : Option Addr} {sl4 : Array (Option Value)} {oc4 kV4 dc4 pm4 cd4 ct4 : Value}
    {f5 : Addr} {od5 an5 : Option Addr} {sl5 : Array (Option Value)} {oc5 kV5 dc5 pm5 cd5 ct5 : Value}
    {f6 : Addr} {od6 an6 : Option Addr} {sl6 : Array (Option Value)} {oc6 kV6 dc6 pm6 cd6 ct6 : Value}
    {f7 : Addr} {od7 an7 : Option Addr} {sl7 : Array (Option Value)} {oc7 kV7 dc7 pm7 cd7 ct7 : Value}
    {f8 : Addr} {od8 an8 : Option Addr} {sl8 : Array (Option Value)} {oc8 kV8 dc8 pm8 cd8 ct8 : Value}
    {f9 : Addr} {od9 an9 : Option Addr} {sl9 : Array (Option Value)} {oc9 kV9 dc9 pm9 cd9 ct9 : Value}
    {f10 : Addr} {od10 an10 : Option Addr} {sl10 : Array (Option Value)} {oc10 kV10 dc10 pm10 cd10 ct10 : Value}
    {f11 : Addr} {od11 an11 : Option Addr} {sl11 : Array (Option Value)} {oc11 kV11 dc11 pm11 cd11 ct11 : Value}
    {f12 : Addr} {od12 an12 : Option Addr} {sl12 : Array (Option Value)} {oc12 kV12 dc12 pm12 cd12 ct12 : Value}
    {f13 : Addr} {od13 an13 : Option Addr} {sl13 : Array (Option Value)} {oc13 kV13 dc13 pm13 cd13 ct13 : Value}
    {f14 : Addr} {od14 an14 : Option Addr} {sl14 : Array (Option Value)} {oc14 kV14 dc14 pm14 cd14 ct14 : Value}
    {f15 : Addr} {od15 an15 : Option Addr} {sl15 : Array (Option Value)} {oc15 kV15 dc15 pm15 cd15 ct15 : Value}
    {f16 : Addr} {od16 an16 : Option Addr} {sl16 : Array (Option Value)} {oc16 kV16 dc16 pm16 cd16 ct16 : Value}
    {f17 : Addr} {od17 an17 : Option Addr} {sl17 : Array (Option Value)} {oc17 kV17 dc17 pm17 cd17 ct17 : Value}
    {f18 : Addr} {od18 an18 : Option Addr} {sl18 : Array (Option Value)} {oc18 kV18 dc18 pm18 cd18 ct18 : Value}
    {f19 : Addr} {od19 an19 : Option Addr} {sl19 : Array (Option Value)} {oc19 kV19 dc19 pm19 cd19 ct19 : Value}
    {f20 : Addr} {od20 an20 : Option Addr} {sl20 : Array (Option Value)} {oc20 kV20 dc20 pm20 cd20 ct20 : Value}
    {f21 : Addr} {od21 an21 : Option Addr} {sl21 : Array (Option Value)} {oc21 kV21 dc21 pm21 cd21 ct21 : Value}
    {f22 : Addr} {od22 an22 : Option Addr} {sl22 : Array (Option Value)} {oc22 kV22 dc22 pm22 cd22 ct22 : Value}
    {f23 : Addr} {od23 an23 : Option Addr} {sl23 : Array (Option Value)} {oc23 kV23 dc23 pm23 cd23 ct23 : Value}
    {f24 : Addr} {od24 an24 : Option Addr} {sl24 : Array (Option Value)} {oc24 kV24 dc24 pm24 cd24 ct24 : Value}
    {f25 : Addr} {od25 an25 : Option Addr} {sl25 : Array (Option Value)} {oc25 kV25 dc25 pm25 cd25 ct25 : Value}
    {f26 : Addr} {od26 an26 : Option Addr} {sl26 : Array (Option Value)} {oc26 kV26 dc26 pm26 cd26 ct26 : Value}
    {f27 : Addr} {od27 an27 : Option Addr} {sl27 : Array (Option Value)} {oc27 kV27 dc27 pm27 cd27 ct27 : Value}
    {f28 : Addr} {od28 an28 : Option Addr} {sl28 : Array (Option Value)} {oc28 kV28 dc28 pm28 cd28 ct28 : Value}
    {f29 : Addr} {od29 an29 : Option Addr} {sl29 : Array (Option Value)} {oc29 kV29 dc29 pm29 cd29 ct29 : Value}
    {f30 : Addr} {od30 an30 : Option Addr} {sl30 : Array (Option Value)} {oc30 kV30 dc30 pm30 cd30 ct30 : Value}
    {f31 : Addr} {od31 an31 : Option Addr} {sl31 : Array (Option Value)} {oc31 kV31 dc31 pm31 cd31 ct31 : Value}
    {f32 : Addr} {od32 an32 : Option Addr} {sl32 : Array (Option Value)} {oc32 kV32 dc32 pm32 cd32 ct32 : Value}
    {f33 : Addr} {od33 an33 : Option Addr} {sl33 : Array (Option Value)} {oc33 kV33 dc33 pm33 cd33 ct33 : Value}
    {f34 : Addr} {od34 an34 : Option Addr} {sl34 : Array (Option Value)} {oc34 kV34 dc34 pm34 cd34 ct34 : Value}
    {f35 : Addr} {od35 an35 : Option Addr} {sl35 : Array (Option Value)} {oc35 kV35 dc35 pm35 cd35 ct35 : Value}
    {f36 : Addr} {od36 an36 : Option Addr} {sl36 : Array (Option Value)} {oc36 kV36 dc36 pm36 cd36 ct36 : Value}
    {f37 : Addr} {od37 an37 : Option Addr} {sl37 : Array (Option Value)} {oc37 kV37 dc37 pm37 cd37 ct37 : Value}
    {f38 : Addr} {od38 an38 : Option Addr} {sl38 : Array (Option Value)} {oc38 kV38 dc38 pm38 cd38 ct38 : Value}
    {f39 : Addr} {od39 an39 : Option Addr} {sl39 : Array (Option Value)} {oc39 kV39 dc39 pm39 cd39 ct39 : Value}
    {f40 : Addr} {od40 an40 : Option Addr} {sl40 : Array (Option Value)} {oc40 kV40 dc40 pm40 cd40 ct40 : Value}
    {f41 : Addr} {od41 an41 : Option Addr} {sl41 : Array (Option Value)} {oc41 kV41 dc41 pm41 cd41 ct41 : Value}
    {f42 : Addr} {od42 an42 : Option Addr} {sl42 : Array (Option Value)} {oc42 kV42 dc42 pm42 cd42 ct42 : Value}
    {f43 : Addr} {od43 an43 : Option Addr} {sl43 : Array (Option Value)} {oc43 kV43 dc43 pm43 cd43 ct43 : Value}
    {f44 : Addr} {od44 an44 : Option Addr} {sl44 : Array (Option Value)} {oc44 kV44 dc44 pm44 cd44 ct44 : Value}
    {f45 : Addr} {od45 an45 : Option Addr} {sl45 : Array (Option Value)} {oc45 kV45 dc45 pm45 cd45 ct45 : Value}
    {f46 : Addr} {od46 an46 : Option Addr} {sl46 : Array (Option Value)} {oc46 kV46 dc46 pm46 cd46 ct46 : Value}
    {f47 : Addr} {od47 an47 : Option Addr} {sl47 : Array (Option Value)} {oc47 kV47 dc47 pm47 cd47 ct47 : Value}
    {f48 : Addr} {od48 an48 : Option Addr} {sl48 : Array (Option Value)} {oc48 kV48 dc48 pm48 cd48 ct48 : Value}
    {f49 : Addr} {od49 an49 : Option Addr} {sl49 : Array (Option Value)} {oc49 kV49 dc49 pm49 cd49 ct49 : Value}
    {f50 : Addr} {od50 an50 : Option Addr} {sl50 : Array (Option Value)} {oc50 kV50 dc50 pm50 cd50 ct50 : Value}  {C_Thing C_Hall C_Held : Addr}
    (aC_Thing : PySem.W.nsIn K mainGlobals "Thing" = some (some (.ref C_Thing)))
    (pg_Thing : PySem.W.plainGet K C_Thing Str.empty = true)
    (hd_Thing : PySem.W.hasDictIn K C_Thing = true)
    (po_Thing : PySem.W.plainOver K C_Thing = true)
    (sa_Thing : PySem.W.findIn K (.ref C_Thing) "__setattr__" = some (some (.builtin "object.__setattr__")))
    (mk_Thing : PySem.W.makesIn K C_Thing = true)
    (kc_Thing : PySem.W.keepIn K (.ref C_Thing) = true)
    (nf_Thing_form : PySem.W.findIn K (.ref C_Thing) "form" = some none)
    (nf_Thing_number : PySem.W.findIn K (.ref C_Thing) "number" = some none)
    (nf_Thing_count : PySem.W.findIn K (.ref C_Thing) "count" = some none)
    (nf_Thing_parts : PySem.W.findIn K (.ref C_Thing) "parts" = some none)
    (nf_Thing_own : PySem.W.findIn K (.ref C_Thing) "own" = some none)
    (nf_Thing_ended : PySem.W.findIn K (.ref C_Thing) "ended" = some none)
    (nf_Thing_waits : PySem.W.findIn K (.ref C_Thing) "waits" = some none)
    (iA_Thing : PySem.W.findIn K (.ref C_Thing) "__class__" = some (some (.builtin "object.__class__")))
    (iB_Thing : PySem.W.specialIn K (.builtin "object.__class__") "__get__" = some (some (.builtin "getset_descriptor.__get__")))
    (iC_Thing : PySem.W.takesIn K (.builtin "object.__class__") = some true)
    (iD_Thing : PySem.W.mroIn K C_Thing (.type "object") = some true)
    (it0_Thing : PySem.W.kitOne K (.ref C_Thing) (.type "bool") = some false)
    (it1_Thing : PySem.W.kitOne K (.ref C_Thing) (.type "int") = some false)
    (it2_Thing : PySem.W.kitOne K (.ref C_Thing) (.type "str") = some false)
    (if0_Thing : PySem.W.kitOne K (.type "NoneType") (.ref C_Thing) = some false)
    (if1_Thing : PySem.W.kitOne K (.type "bool") (.ref C_Thing) = some false)
    (if2_Thing : PySem.W.kitOne K (.type "int") (.ref C_Thing) = some false)
    (if3_Thing : PySem.W.kitOne K (.type "str") (.ref C_Thing) = some false)
    (aC_Hall : PySem.W.nsIn K mainGlobals "Hall" = some (some (.ref C_Hall)))
    (pg_Hall : PySem.W.plainGet K C_Hall Str.empty = true)
    (hd_Hall : PySem.W.hasDictIn K C_Hall = true)
    (po_Hall : PySem.W.plainOver K C_Hall = true)
    (sa_Hall : PySem.W.findIn K (.ref C_Hall) "__setattr__" = some (some (.builtin "object.__setattr__")))
    (mk_Hall : PySem.W.makesIn K C_Hall = true)
    (kc_Hall : PySem.W.keepIn K (.ref C_Hall) = true)
    (nf_Hall_ender : PySem.W.findIn K (.ref C_Hall) "ender" = some none)
    (nf_Hall_many : PySem.W.findIn K (.ref C_Hall) "many" = some none)
    (nf_Hall_there : PySem.W.findIn K (.ref C_Hall) "there" = some none)
    (nf_Hall_left : PySem.W.findIn K (.ref C_Hall) "left" = some none)
    (nf_Hall_row : PySem.W.findIn K (.ref C_Hall) "row" = some none)
    (nf_Hall_lasts : PySem.W.findIn K (.ref C_Hall) "lasts" = some none)
    (aC_Held : PySem.W.nsIn K mainGlobals "Held" = some (some (.ref C_Held)))
    (pg_Held : PySem.W.plainGet K C_Held Str.empty = true)
    (hd_Held : PySem.W.hasDictIn K C_Held = true)
    (po_Held : PySem.W.plainOver K C_Held = true)
    (sa_Held : PySem.W.findIn K (.ref C_Held) "__setattr__" = some (some (.builtin "object.__setattr__")))
    (mk_Held : PySem.W.makesIn K C_Held = true)
    (kc_Held : PySem.W.keepIn K (.ref C_Held) = true)
    (nf_Held_has : PySem.W.findIn K (.ref C_Held) "has" = some none)
    (iA_Held : PySem.W.findIn K (.ref C_Held) "__class__" = some (some (.builtin "object.__class__")))
    (iB_Held : PySem.W.specialIn K (.builtin "object.__class__") "__get__" = some (some (.builtin "getset_descriptor.__get__")))
    (iC_Held : PySem.W.takesIn K (.builtin "object.__class__") = some true)
    (iD_Held : PySem.W.mroIn K C_Held (.type "object") = some true)
    (it0_Held : PySem.W.kitOne K (.ref C_Held) (.type "bool") = some false)
    (it1_Held : PySem.W.kitOne K (.ref C_Held) (.type "int") = some false)
    (it2_Held : PySem.W.kitOne K (.ref C_Held) (.type "str") = some false)
    (if0_Held : PySem.W.kitOne K (.type "NoneType") (.ref C_Held) = some false)
    (if1_Held : PySem.W.kitOne K (.type "bool") (.ref C_Held) = some false)
    (if2_Held : PySem.W.kitOne K (.type "int") (.ref C_Held) = some false)
    (if3_Held : PySem.W.kitOne K (.type "str") (.ref C_Held) = some false)
    (a1 : PySem.W.findIn K (.ref C_Thing) "__init__" = some (some (.ref f1))) (i1 : PySem.W.isFn K (.ref f1) = true) (l1 : K.lookup f1 = some ⟨oc1, od1, .func (PySem.W.fnOf "__init__" "Thing.__init__" (defArgs s_Thing___init__) (defBody s_Thing___init__) (defScope s_Thing___init__) .none kV1 dc1 pm1 an1 cd1 ct1), sl1⟩) (c1 : PySem.W.codeIn K cd1 "Thing.__init__" = true) (k1 : PySem.W.keepIn K (.ref f1) = true)
    (a2 : PySem.W.findIn K (.ref C_Held) "__init__" = some (some (.ref f2))) (i2 : PySem.W.isFn K (.ref f2) = true) (l2 : K.lookup f2 = some ⟨oc2, od2, .func (PySem.W.fnOf "__init__" "Held.__init__" (defArgs s_Held___init__) (defBody s_Held___init__) (defScope s_Held___init__) .none kV2 dc2 pm2 an2 cd2 ct2), sl2⟩) (c2 : PySem.W.codeIn K cd2 "Held.__init__" = true) (k2 : PySem.W.keepIn K (.ref f2) = true)
    (a3 : PySem.W.findIn K (.ref C_Held) "held" = some (some (.ref f3))) (i3 : PySem.W.isFn K (.ref f3) = true) (l3 : K.lookup f3 = some ⟨oc3, od3, .func (PySem.W.fnOf "held" "Held.held" (defArgs s_Held_held) (defBody s_Held_held) (defScope s_Held_held) .none kV3 dc3 pm3 an3 cd3 ct3), sl3⟩) (c3 : PySem.W.codeIn K cd3 "Held.held" = true) (k3 : PySem.W.keepIn K (.ref f3) = true)
    (a4 : PySem.W.findIn K (.ref C_Hall) "__init__" = some (some (.ref f4))) (i4 : PySem.W.isFn K (.ref f4) = true) (l4 : K.lookup f4 = some ⟨oc4, od4, .func (PySem.W.fnOf "__init__" "Hall.__init__" (defArgs s_Hall___init__) (defBody s_Hall___init__) (defScope s_Hall___init__) .none kV4 dc4 pm4 an4 cd4 ct4), sl4⟩) (c4 : PySem.W.codeIn K cd4 "Hall.__init__" = true) (k4 : PySem.W.keepIn K (.ref f4) = true)
    (a5 : PySem.W.findIn K (.ref C_Hall) "make" = some (some (.ref f5))) (i5 : PySem.W.isFn K (.ref f5) = true) (l5 : K.lookup f5 = some ⟨oc5, od5, .func (PySem.W.fnOf "make" "Hall.make" (defArgs s_Hall_make) (defBody s_Hall_make) (defScope s_Hall_make) .none kV5 dc5 pm5 an5 cd5 ct5), sl5⟩) (c5 : PySem.W.codeIn K cd5 "Hall.make" = true) (k5 : PySem.W.keepIn K (.ref f5) = true)
    (a6 : PySem.W.findIn K (.ref C_Hall) "hold" = some (some (.ref f6))) (i6 : PySem.W.isFn K (.ref f6) = true) (l6 : K.lookup f6 = some ⟨oc6, od6, .func (PySem.W.fnOf "hold" "Hall.hold" (defArgs s_Hall_hold) (defBody s_Hall_hold) (defScope s_Hall_hold) .none kV6 dc6 pm6 an6 cd6 ct6), sl6⟩) (c6 : PySem.W.codeIn K cd6 "Hall.hold" = true) (k6 : PySem.W.keepIn K (.ref f6) = true)
    (a7 : PySem.W.findIn K (.ref C_Hall) "let_go" = some (some (.ref f7))) (i7 : PySem.W.isFn K (.ref f7) = true) (l7 : K.lookup f7 = some ⟨oc7, od7, .func (PySem.W.fnOf "let_go" "Hall.let_go" (defArgs s_Hall_let_go) (defBody s_Hall_let_go) (defScope s_Hall_let_go) .none kV7 dc7 pm7 an7 cd7 ct7), sl7⟩) (c7 : PySem.W.codeIn K cd7 "Hall.let_go" = true) (k7 : PySem.W.keepIn K (.ref f7) = true)
    (a8 : PySem.W.findIn K (.ref C_Hall) "loose" = some (some (.ref f8))) (i8 : PySem.W.isFn K (.ref f8) = true) (l8 : K.lookup f8 = some ⟨oc8, od8, .func (PySem.W.fnOf "loose" "Hall.loose" (defArgs s_Hall_loose) (defBody s_Hall_loose) (defScope s_Hall_loose) .none kV8 dc8 pm8 an8 cd8 ct8), sl8⟩) (c8 : PySem.W.codeIn K cd8 "Hall.loose" = true) (k8 : PySem.W.keepIn K (.ref f8) = true)
    (a9 : PySem.W.findIn K (.ref C_Hall) "empty" = some (some (.ref f9))) (i9 : PySem.W.isFn K (.ref f9) = true) (l9 : K.lookup f9 = some ⟨oc9, od9, .func (PySem.W.fnOf "empty" "Hall.empty" (defArgs s_Hall_empty) (defBody s_Hall_empty) (defScope s_Hall_empty) .none kV9 dc9 pm9 an9 cd9 ct9), sl9⟩) (c9 : PySem.W.codeIn K cd9 "Hall.empty" = true) (k9 : PySem.W.keepIn K (.ref f9) = true)
    (a10 : PySem.W.findIn K (.ref C_Hall) "be_gone" = some (some (.ref f10))) (i10 : PySem.W.isFn K (.ref f10) = true) (l10 : K.lookup f10 = some ⟨oc10, od10, .func (PySem.W.fnOf "be_gone" "Hall.be_gone" (defArgs s_Hall_be_gone) (defBody s_Hall_be_gone) (defScope s_Hall_be_gone) .none kV10 dc10 pm10 an10 cd10 ct10), sl10⟩) (c10 : PySem.W.codeIn K cd10 "Hall.be_gone" = true) (k10 : PySem.W.keepIn K (.ref f10) = true)
    (a11 : PySem.W.findIn K (.ref C_Hall) "ask_last" = some (some (.ref f11))) (i11 : PySem.W.isFn K (.ref f11) = true) (l11 : K.lookup f11 = some ⟨oc11, od11, .func (PySem.W.fnOf "ask_last" "Hall.ask_last" (defArgs s_Hall_ask_last) (defBody s_Hall_ask_last) (defScope s_Hall_ask_last) .none kV11 dc11 pm11 an11 cd11 ct11), sl11⟩) (c11 : PySem.W.codeIn K cd11 "Hall.ask_last" = true) (k11 : PySem.W.keepIn K (.ref f11) = true)
    (a12 : PySem.W.findIn K (.ref C_Hall) "turn" = some (some (.ref f12))) (i12 : PySem.W.isFn K (.ref f12) = true) (l12 : K.lookup f12 = some ⟨oc12, od12, .func (PySem.W.fnOf "turn" "Hall.turn" (defArgs s_Hall_turn) (defBody s_Hall_turn) (defScope s_Hall_turn) .none kV12 dc12 pm12 an12 cd12 ct12), sl12⟩) (c12 : PySem.W.codeIn K cd12 "Hall.turn" = true) (k12 : PySem.W.keepIn K (.ref f12) = true)
    (a13 : PySem.W.findIn K (.ref C_Hall) "work" = some (some (.ref f13))) (i13 : PySem.W.isFn K (.ref f13) = true) (l13 : K.lookup f13 = some ⟨oc13, od13, .func (PySem.W.fnOf "work" "Hall.work" (defArgs s_Hall_work) (defBody s_Hall_work) (defScope s_Hall_work) .none kV13 dc13 pm13 an13 cd13 ct13), sl13⟩) (c13 : PySem.W.codeIn K cd13 "Hall.work" = true) (k13 : PySem.W.keepIn K (.ref f13) = true)
    (a14 : PySem.W.findIn K (.ref C_Hall) "put" = some (some (.ref f14))) (i14 : PySem.W.isFn K (.ref f14) = true) (l14 : K.lookup f14 = some ⟨oc14, od14, .func (PySem.W.fnOf "put" "Hall.put" (defArgs s_Hall_put) (defBody s_Hall_put) (defScope s_Hall_put) .none kV14 dc14 pm14 an14 cd14 ct14), sl14⟩) (c14 : PySem.W.codeIn K cd14 "Hall.put" = true) (k14 : PySem.W.keepIn K (.ref f14) = true)
    (a15 : PySem.W.findIn K (.ref C_Hall) "take" = some (some (.ref f15))) (i15 : PySem.W.isFn K (.ref f15) = true) (l15 : K.lookup f15 = some ⟨oc15, od15, .func (PySem.W.fnOf "take" "Hall.take" (defArgs s_Hall_take) (defBody s_Hall_take) (defScope s_Hall_take) .none kV15 dc15 pm15 an15 cd15 ct15), sl15⟩) (c15 : PySem.W.codeIn K cd15 "Hall.take" = true) (k15 : PySem.W.keepIn K (.ref f15) = true)
    (a16 : PySem.W.findIn K (.ref C_Hall) "things" = some (some (.ref f16))) (i16 : PySem.W.isFn K (.ref f16) = true) (l16 : K.lookup f16 = some ⟨oc16, od16, .func (PySem.W.fnOf "things" "Hall.things" (defArgs s_Hall_things) (defBody s_Hall_things) (defScope s_Hall_things) .none kV16 dc16 pm16 an16 cd16 ct16), sl16⟩) (c16 : PySem.W.codeIn K cd16 "Hall.things" = true) (k16 : PySem.W.keepIn K (.ref f16) = true)
    (a17 : PySem.W.findIn K (.ref C_Hall) "gone" = some (some (.ref f17))) (i17 : PySem.W.isFn K (.ref f17) = true) (l17 : K.lookup f17 = some ⟨oc17, od17, .func (PySem.W.fnOf "gone" "Hall.gone" (defArgs s_Hall_gone) (defBody s_Hall_gone) (defScope s_Hall_gone) .none kV17 dc17 pm17 an17 cd17 ct17), sl17⟩) (c17 : PySem.W.codeIn K cd17 "Hall.gone" = true) (k17 : PySem.W.keepIn K (.ref f17) = true)
    (a18 : PySem.W.findIn K (.ref C_Hall) "at_work" = some (some (.ref f18))) (i18 : PySem.W.isFn K (.ref f18) = true) (l18 : K.lookup f18 = some ⟨oc18, od18, .func (PySem.W.fnOf "at_work" "Hall.at_work" (defArgs s_Hall_at_work) (defBody s_Hall_at_work) (defScope s_Hall_at_work) .none kV18 dc18 pm18 an18 cd18 ct18), sl18⟩) (c18 : PySem.W.codeIn K cd18 "Hall.at_work" = true) (k18 : PySem.W.keepIn K (.ref f18) = true)
    (a19 : PySem.W.findIn K (.ref C_Hall) "let_all_go" = some (some (.ref f19))) (i19 : PySem.W.isFn K (.ref f19) = true) (l19 : K.lookup f19 = some ⟨oc19, od19, .func (PySem.W.fnOf "let_all_go" "Hall.let_all_go" (defArgs s_Hall_let_all_go) (defBody s_Hall_let_all_go) (defScope s_Hall_let_all_go) .none kV19 dc19 pm19 an19 cd19 ct19), sl19⟩) (c19 : PySem.W.codeIn K cd19 "Hall.let_all_go" = true) (k19 : PySem.W.keepIn K (.ref f19) = true)
    (a20 : PySem.W.nsIn K mainGlobals "led_to" = some (some (.ref f20))) (l20 : K.lookup f20 = some ⟨oc20, od20, .func (PySem.W.fnOf "led_to" "led_to" (defArgs s_led_to) (defBody s_led_to) (defScope s_led_to) .none kV20 dc20 pm20 an20 cd20 ct20), sl20⟩) (c20 : PySem.W.codeIn K cd20 "led_to" = true) (k20 : PySem.W.keepIn K (.ref f20) = true)
    (a21 : PySem.W.nsIn K mainGlobals "reached" = some (some (.ref f21))) (l21 : K.lookup f21 = some ⟨oc21, od21, .func (PySem.W.fnOf "reached" "reached" (defArgs s_reached) (defBody s_reached) (defScope s_reached) .none kV21 dc21 pm21 an21 cd21 ct21), sl21⟩) (c21 : PySem.W.codeIn K cd21 "reached" = true) (k21 : PySem.W.keepIn K (.ref f21) = true)
    (a22 : PySem.W.nsIn K mainGlobals "without" = some (some (.ref f22))) (l22 : K.lookup f22 = some ⟨oc22, od22, .func (PySem.W.fnOf "without" "without" (defArgs s_without) (defBody s_without) (defScope s_without) .none kV22 dc22 pm22 an22 cd22 ct22), sl22⟩) (c22 : PySem.W.codeIn K cd22 "without" = true) (k22 : PySem.W.keepIn K (.ref f22) = true)
    (a23 : PySem.W.nsIn K mainGlobals "others_there" = some (some (.ref f23))) (l23 : K.lookup f23 = some ⟨oc23, od23, .func (PySem.W.fnOf "others_there" "others_there" (defArgs s_others_there) (defBody s_others_there) (defScope s_others_there) .none kV23 dc23 pm23 an23 cd23 ct23), sl23⟩) (c23 : PySem.W.codeIn K cd23 "others_there" = true) (k23 : PySem.W.keepIn K (.ref f23) = true)
    (a24 : PySem.W.nsIn K mainGlobals "swept" = some (some (.ref f24))) (l24 : K.lookup f24 = some ⟨oc24, od24, .func (PySem.W.fnOf "swept" "swept" (defArgs s_swept) (defBody s_swept) (defScope s_swept) .none kV24 dc24 pm24 an24 cd24 ct24), sl24⟩) (c24 : PySem.W.codeIn K cd24 "swept" = true) (k24 : PySem.W.keepIn K (.ref f24) = true)
    (a25 : PySem.W.nsIn K mainGlobals "_law_mixed" = some (some (.ref f25))) (l25 : K.lookup f25 = some ⟨oc25, od25, .func (PySem.W.fnOf "_law_mixed" "_law_mixed" (defArgs s__law_mixed) (defBody s__law_mixed) (defScope s__law_mixed) .none kV25 dc25 pm25 an25 cd25 ct25), sl25⟩) (c25 : PySem.W.codeIn K cd25 "_law_mixed" = true) (k25 : PySem.W.keepIn K (.ref f25) = true)
    (a26 : PySem.W.nsIn K mainGlobals "_law_well" = some (some (.ref f26))) (l26 : K.lookup f26 = some ⟨oc26, od26, .func (PySem.W.fnOf "_law_well" "_law_well" (defArgs s__law_well) (defBody s__law_well) (defScope s__law_well) .none kV26 dc26 pm26 an26 cd26 ct26), sl26⟩) (c26 : PySem.W.codeIn K cd26 "_law_well" = true) (k26 : PySem.W.keepIn K (.ref f26) = true)
    (a27 : PySem.W.nsIn K mainGlobals "_law_dig" = some (some (.ref f27))) (l27 : K.lookup f27 = some ⟨oc27, od27, .func (PySem.W.fnOf "_law_dig" "_law_dig" (defArgs s__law_dig) (defBody s__law_dig) (defScope s__law_dig) .none kV27 dc27 pm27 an27 cd27 ct27), sl27⟩) (c27 : PySem.W.codeIn K cd27 "_law_dig" = true) (k27 : PySem.W.keepIn K (.ref f27) = true)
    (a28 : PySem.W.nsIn K mainGlobals "_law_model" = some (some (.ref f28))) (l28 : K.lookup f28 = some ⟨oc28, od28, .func (PySem.W.fnOf "_law_model" "_law_model" (defArgs s__law_model) (defBody s__law_model) (defScope s__law_model) .none kV28 dc28 pm28 an28 cd28 ct28), sl28⟩) (c28 : PySem.W.codeIn K cd28 "_law_model" = true) (k28 : PySem.W.keepIn K (.ref f28) = true)
    (a29 : PySem.W.nsIn K mainGlobals "_law_count" = some (some (.ref f29))) (l29 : K.lookup f29 = some ⟨oc29, od29, .func (PySem.W.fnOf "_law_count" "_law_count" (defArgs s__law_count) (defBody s__law_count) (defScope s__law_count) .none kV29 dc29 pm29 an29 cd29 ct29), sl29⟩) (c29 : PySem.W.codeIn K cd29 "_law_count" = true) (k29 : PySem.W.keepIn K (.ref f29) = true)
    (a30 : PySem.W.nsIn K mainGlobals "_law_loosed" = some (some (.ref f30))) (l30 : K.lookup f30 = some ⟨oc30, od30, .func (PySem.W.fnOf "_law_loosed" "_law_loosed" (defArgs s__law_loosed) (defBody s__law_loosed) (defScope s__law_loosed) .none kV30 dc30 pm30 an30 cd30 ct30), sl30⟩) (c30 : PySem.W.codeIn K cd30 "_law_loosed" = true) (k30 : PySem.W.keepIn K (.ref f30) = true)
    (a31 : PySem.W.nsIn K mainGlobals "_law_left" = some (some (.ref f31))) (l31 : K.lookup f31 = some ⟨oc31, od31, .func (PySem.W.fnOf "_law_left" "_law_left" (defArgs s__law_left) (defBody s__law_left) (defScope s__law_left) .none kV31 dc31 pm31 an31 cd31 ct31), sl31⟩) (c31 : PySem.W.codeIn K cd31 "_law_left" = true) (k31 : PySem.W.keepIn K (.ref f31) = true)
    (a32 : PySem.W.nsIn K mainGlobals "_law_emptied" = some (some (.ref f32))) (l32 : K.lookup f32 = some ⟨oc32, od32, .func (PySem.W.fnOf "_law_emptied" "_law_emptied" (defArgs s__law_emptied) (defBody s__law_emptied) (defScope s__law_emptied) .none kV32 dc32 pm32 an32 cd32 ct32), sl32⟩) (c32 : PySem.W.codeIn K cd32 "_law_emptied" = true) (k32 : PySem.W.keepIn K (.ref f32) = true)
    (a33 : PySem.W.nsIn K mainGlobals "_law_ask" = some (some (.ref f33))) (l33 : K.lookup f33 = some ⟨oc33, od33, .func (PySem.W.fnOf "_law_ask" "_law_ask" (defArgs s__law_ask) (defBody s__law_ask) (defScope s__law_ask) .none kV33 dc33 pm33 an33 cd33 ct33), sl33⟩) (c33 : PySem.W.codeIn K cd33 "_law_ask" = true) (k33 : PySem.W.keepIn K (.ref f33) = true)
    (a34 : PySem.W.nsIn K mainGlobals "_law_worked" = some (some (.ref f34))) (l34 : K.lookup f34 = some ⟨oc34, od34, .func (PySem.W.fnOf "_law_worked" "_law_worked" (defArgs s__law_worked) (defBody s__law_worked) (defScope s__law_worked) .none kV34 dc34 pm34 an34 cd34 ct34), sl34⟩) (c34 : PySem.W.codeIn K cd34 "_law_worked" = true) (k34 : PySem.W.keepIn K (.ref f34) = true)
    (a35 : PySem.W.nsIn K mainGlobals "_law_parted" = some (some (.ref f35))) (l35 : K.lookup f35 = some ⟨oc35, od35, .func (PySem.W.fnOf "_law_parted" "_law_parted" (defArgs s__law_parted) (defBody s__law_parted) (defScope s__law_parted) .none kV35 dc35 pm35 an35 cd35 ct35), sl35⟩) (c35 : PySem.W.codeIn K cd35 "_law_parted" = true) (k35 : PySem.W.keepIn K (.ref f35) = true)
    (a36 : PySem.W.nsIn K mainGlobals "_law_modelled" = some (some (.ref f36))) (l36 : K.lookup f36 = some ⟨oc36, od36, .func (PySem.W.fnOf "_law_modelled" "_law_modelled" (defArgs s__law_modelled) (defBody s__law_modelled) (defScope s__law_modelled) .none kV36 dc36 pm36 an36 cd36 ct36), sl36⟩) (c36 : PySem.W.codeIn K cd36 "_law_modelled" = true) (k36 : PySem.W.keepIn K (.ref f36) = true)
    (a37 : PySem.W.nsIn K mainGlobals "_law_near" = some (some (.ref f37))) (l37 : K.lookup f37 = some ⟨oc37, od37, .func (PySem.W.fnOf "_law_near" "_law_near" (defArgs s__law_near) (defBody s__law_near) (defScope s__law_near) .none kV37 dc37 pm37 an37 cd37 ct37), sl37⟩) (c37 : PySem.W.codeIn K cd37 "_law_near" = true) (k37 : PySem.W.keepIn K (.ref f37) = true)
    (a38 : PySem.W.nsIn K mainGlobals "_law_swept" = some (some (.ref f38))) (l38 : K.lookup f38 = some ⟨oc38, od38, .func (PySem.W.fnOf "_law_swept" "_law_swept" (defArgs s__law_swept) (defBody s__law_swept) (defScope s__law_swept) .none kV38 dc38 pm38 an38 cd38 ct38), sl38⟩) (c38 : PySem.W.codeIn K cd38 "_law_swept" = true) (k38 : PySem.W.keepIn K (.ref f38) = true)
    (a39 : PySem.W.nsIn K mainGlobals "_law_as" = some (some (.ref f39))) (l39 : K.lookup f39 = some ⟨oc39, od39, .func (PySem.W.fnOf "_law_as" "_law_as" (defArgs s__law_as) (defBody s__law_as) (defScope s__law_as) .none kV39 dc39 pm39 an39 cd39 ct39), sl39⟩) (c39 : PySem.W.codeIn K cd39 "_law_as" = true) (k39 : PySem.W.keepIn K (.ref f39) = true)
    (a40 : PySem.W.nsIn K mainGlobals "_law_back" = some (some (.ref f40))) (l40 : K.lookup f40 = some ⟨oc40, od40, .func (PySem.W.fnOf "_law_back" "_law_back" (defArgs s__law_back) (defBody s__law_back) (defScope s__law_back) .none kV40 dc40 pm40 an40 cd40 ct40), sl40⟩) (c40 : PySem.W.codeIn K cd40 "_law_back" = true) (k40 : PySem.W.keepIn K (.ref f40) = true)
    (a41 : PySem.W.nsIn K mainGlobals "_law_done" = some (some (.ref f41))) (l41 : K.lookup f41 = some ⟨oc41, od41, .func (PySem.W.fnOf "_law_done" "_law_done" (defArgs s__law_done) (defBody s__law_done) (defScope s__law_done) .none kV41 dc41 pm41 an41 cd41 ct41), sl41⟩) (c41 : PySem.W.codeIn K cd41 "_law_done" = true) (k41 : PySem.W.keepIn K (.ref f41) = true)
    (a42 : PySem.W.nsIn K mainGlobals "_law_do" = some (some (.ref f42))) (l42 : K.lookup f42 = some ⟨oc42, od42, .func (PySem.W.fnOf "_law_do" "_law_do" (defArgs s__law_do) (defBody s__law_do) (defScope s__law_do) .none kV42 dc42 pm42 an42 cd42 ct42), sl42⟩) (c42 : PySem.W.codeIn K cd42 "_law_do" = true) (k42 : PySem.W.keepIn K (.ref f42) = true)
    (a43 : PySem.W.nsIn K mainGlobals "_law_met_things" = some (some (.ref f43))) (l43 : K.lookup f43 = some ⟨oc43, od43, .func (PySem.W.fnOf "_law_met_things" "_law_met_things" (defArgs s__law_met_things) (defBody s__law_met_things) (defScope s__law_met_things) .none kV43 dc43 pm43 an43 cd43 ct43), sl43⟩) (c43 : PySem.W.codeIn K cd43 "_law_met_things" = true) (k43 : PySem.W.keepIn K (.ref f43) = true)
    (a44 : PySem.W.nsIn K mainGlobals "_law_alike" = some (some (.ref f44))) (l44 : K.lookup f44 = some ⟨oc44, od44, .func (PySem.W.fnOf "_law_alike" "_law_alike" (defArgs s__law_alike) (defBody s__law_alike) (defScope s__law_alike) .none kV44 dc44 pm44 an44 cd44 ct44), sl44⟩) (c44 : PySem.W.codeIn K cd44 "_law_alike" = true) (k44 : PySem.W.keepIn K (.ref f44) = true)
    (a45 : PySem.W.nsIn K mainGlobals "_law_key" = some (some (.ref f45))) (l45 : K.lookup f45 = some ⟨oc45, od45, .func (PySem.W.fnOf "_law_key" "_law_key" (defArgs s__law_key) (defBody s__law_key) (defScope s__law_key) .none kV45 dc45 pm45 an45 cd45 ct45), sl45⟩) (c45 : PySem.W.codeIn K cd45 "_law_key" = true) (k45 : PySem.W.keepIn K (.ref f45) = true)
    (a46 : PySem.W.nsIn K mainGlobals "_law_value" = some (some (.ref f46))) (l46 : K.lookup f46 = some ⟨oc46, od46, .func (PySem.W.fnOf "_law_value" "_law_value" (defArgs s__law_value) (defBody s__law_value) (defScope s__law_value) .none kV46 dc46 pm46 an46 cd46 ct46), sl46⟩) (c46 : PySem.W.codeIn K cd46 "_law_value" = true) (k46 : PySem.W.keepIn K (.ref f46) = true)
    (a47 : PySem.W.nsIn K mainGlobals "_law_some" = some (some (.ref f47))) (l47 : K.lookup f47 = some ⟨oc47, od47, .func (PySem.W.fnOf "_law_some" "_law_some" (defArgs s__law_some) (defBody s__law_some) (defScope s__law_some) .none kV47 dc47 pm47 an47 cd47 ct47), sl47⟩) (c47 : PySem.W.codeIn K cd47 "_law_some" = true) (k47 : PySem.W.keepIn K (.ref f47) = true)
    (a48 : PySem.W.nsIn K mainGlobals "_law_begun" = some (some (.ref f48))) (l48 : K.lookup f48 = some ⟨oc48, od48, .func (PySem.W.fnOf "_law_begun" "_law_begun" (defArgs s__law_begun) (defBody s__law_begun) (defScope s__law_begun) .none kV48 dc48 pm48 an48 cd48 ct48), sl48⟩) (c48 : PySem.W.codeIn K cd48 "_law_begun" = true) (k48 : PySem.W.keepIn K (.ref f48) = true)
    (a49 : PySem.W.nsIn K mainGlobals "_law_values" = some (some (.ref f49))) (l49 : K.lookup f49 = some ⟨oc49, od49, .func (PySem.W.fnOf "_law_values" "_law_values" (defArgs s__law_values) (defBody s__law_values) (defScope s__law_values) .none kV49 dc49 pm49 an49 cd49 ct49), sl49⟩) (c49 : PySem.W.codeIn K cd49 "_law_values" = true) (k49 : PySem.W.keepIn K (.ref f49) = true)
    (a50 : PySem.W.nsIn K mainGlobals "law" = some (some (.ref f50))) (l50 : K.lookup f50 = some ⟨oc50, od50, .func (PySem.W.fnOf "law" "law" (defArgs s_law) (defBody s_law) (defScope s_law) .none kV50 dc50 pm50 an50 cd50 ct50), sl50⟩) (c50 : PySem.W.codeIn K cd50 "law" = true) (k50 : PySem.W.keepIn K (.ref f50) = true)
    (z1 : PySem.W.nsIn K mainGlobals "len" = some none)
    (z2 : PySem.W.nsIn K mainGlobals "int" = some none)
    (z3 : PySem.W.nsIn K mainGlobals "range" = some none)
    (z4 : PySem.W.nsIn K mainGlobals "str" = some none)
    (z5 : PySem.W.nsIn K mainGlobals "isinstance" = some none)
    (z6 : PySem.W.nsIn K mainGlobals "bool" = some none)
    (z7 : PySem.W.nsIn K mainGlobals "sorted" = some none)
    (z8 : PySem.W.nsIn K mainGlobals "list" = some none)
    (z9 : PySem.W.nsIn K mainGlobals "enumerate" = some none)
    (z10 : PySem.W.nsIn K mainGlobals "dict" = some none)
    (z11 : PySem.W.nsIn K mainGlobals "min" = some none)
    (z12 : PySem.W.nsIn K mainGlobals "all" = some none)
    (z13 : PySem.W.nsIn K mainGlobals "tuple" = some none)
    (z14 : PySem.W.nsIn K mainGlobals "set" = some none)
    (z15 : PySem.W.nsIn K mainGlobals "sum" = some none)
    (z16 : PySem.W.nsIn K mainGlobals "abs" = some none) :
    ∃ fd : FuncData, (∀ (s : Shared) (v : Value), BindsTo s fd ⟨[v], []⟩ [("_law_script", v)]) ∧ ∀ base : Heap, K.In base → base.Ns mainGlobals mg → FnOk l.prog w K mg base CX0 11 fa fd ["_law_script"] (spLaw K) := by
  have e := hfa.symm.trans (PySem.W.mg_of X G a50)
  cases e
  have T : TxW K mg C_Thing C_Hall C_Held := ⟨⟨PySem.W.mg_none_of X G z1, PySem.W.mg_none_of X G z2, PySem.W.mg_none_of X G z3, PySem.W.mg_none_of X G z4, PySem.W.mg_none_of X G z5, PySem.W.mg_none_of X G z6, PySem.W.mg_none_of X G z7, PySem.W.mg_none_of X G z8, PySem.W.mg_none_of X G z9, PySem.W.mg_none_of X G z10, PySem.W.mg_none_of X G z11, PySem.W.mg_none_of X G z12, PySem.W.mg_none_of X G z13, PySem.W.mg_none_of X G z14, PySem.W.mg_none_of X G z15, ⟨.ref C_Thing, _, PySem.W.mg_of X G aC_Thing, rfl, fun _ => .ref _⟩, ⟨⟨pg_Thing, hd_Thing, po_Thing, sa_Thing⟩, DL.nF_cons nf_Thing_form (DL.nF_cons nf_Thing_number (DL.nF_cons nf_Thing_count (DL.nF_cons nf_Thing_parts (DL.nF_cons nf_Thing_own (DL.nF_cons nf_Thing_ended (DL.nF_cons nf_Thing_waits (DL.nF_nil)))))))⟩, ⟨⟨pg_Hall, hd_Hall, po_Hall, sa_Hall⟩, DL.nF_cons nf_Hall_ender (DL.nF_cons nf_Hall_many (DL.nF_cons nf_Hall_there (DL.nF_cons nf_Hall_left (DL.nF_cons nf_Hall_row (DL.nF_cons nf_Hall_lasts (DL.nF_nil))))))⟩, ⟨⟨pg_Thing, hd_Thing, po_Thing, sa_Thing⟩, iA_Thing, iB_Thing, iC_Thing, iD_Thing, it0_Thing, it1_Thing, it2_Thing, if0_Thing, if1_Thing, if2_Thing, if3_Thing⟩⟩, ⟨.ref C_Held, _, PySem.W.mg_of X G aC_Held, rfl, fun _ => .ref _⟩, ⟨⟨pg_Held, hd_Held, po_Held, sa_Held⟩, DL.nF_cons nf_Held_has (DL.nF_nil)⟩, ⟨⟨pg_Held, hd_Held, po_Held, sa_Held⟩, iA_Held, iB_Held, iC_Held, iD_Held, it0_Held, it1_Held, it2_Held, if0_Held, if1_Held, if2_Held, if3_Held⟩⟩
  have F1 := fun_mk (st := s_Thing___init__) l1 c1 k1
  have b1 := F1.binds (ps := ["self", "form", "number", "own"]) fun _ _ _ _ _ _ us hl => match us, hl with | [_, _, _, _], _ => rfl
  have F2 := fun_mk (st := s_Held___init__) l2 c2 k2
  have b2 := F2.binds (ps := ["self", "values"]) fun _ _ _ _ _ _ us hl => match us, hl with | [_, _], _ => rfl
  have F3 := fun_mk (st := s_Held_held) l3 c3 k3
  have b3 := F3.binds (ps := ["self"]) fun _ _ _ _ _ _ us hl => match us, hl with | [_], _ => rfl
  have F4 := fun_mk (st := s_Hall___init__) l4 c4 k4
  have b4 := F4.binds (ps := ["self", "ender"]) fun _ _ _ _ _ _ us hl => match us, hl with | [_, _], _ => rfl
  have F5 := fun_mk (st := s_Hall_make) l5 c5 k5
  have b5 := F5.binds (ps := ["self", "form", "own"]) fun _ _ _ _ _ _ us hl => match us, hl with | [_, _, _], _ => rfl
  have F6 := fun_mk (st := s_Hall_hold) l6 c6 k6
  have b6 := F6.binds (ps := ["self", "value"]) fun _ _ _ _ _ _ us hl => match us, hl with | [_, _], _ => rfl
  have F7 := fun_mk (st := s_Hall_let_go) l7 c7 k7
  have b7 := F7.binds (ps := ["self", "thing"]) fun _ _ _ _ _ _ us hl => match us, hl with | [_, _], _ => rfl
  have F8 := fun_mk (st := s_Hall_loose) l8 c8 k8
  have b8 := F8.binds (ps := ["self", "value"]) fun _ _ _ _ _ _ us hl => match us, hl with | [_, _], _ => rfl
  have F9 := fun_mk (st := s_Hall_empty) l9 c9 k9
  have b9 := F9.binds (ps := ["self", "thing"]) fun _ _ _ _ _ _ us hl => match us, hl with | [_, _], _ => rfl
  have F10 := fun_mk (st := s_Hall_be_gone) l10 c10 k10
  have b10 := F10.binds (ps := ["self", "thing"]) fun _ _ _ _ _ _ us hl => match us, hl with | [_, _], _ => rfl
  have F11 := fun_mk (st := s_Hall_ask_last) l11 c11 k11
  have b11 := F11.binds (ps := ["self", "thing"]) fun _ _ _ _ _ _ us hl => match us, hl with | [_, _], _ => rfl
  have F12 := fun_mk (st := s_Hall_turn) l12 c12 k12
  have b12 := F12.binds (ps := ["self", "thing"]) fun _ _ _ _ _ _ us hl => match us, hl with | [_, _], _ => rfl
  have F13 := fun_mk (st := s_Hall_work) l13 c13 k13
  have b13 := F13.binds (ps := ["self"]) fun _ _ _ _ _ _ us hl => match us, hl with | [_], _ => rfl
  have F14 := fun_mk (st := s_Hall_put) l14 c14 k14
  have b14 := F14.binds (ps := ["self", "thing", "key", "value"]) fun _ _ _ _ _ _ us hl => match us, hl with | [_, _, _, _], _ => rfl
  have F15 := fun_mk (st := s_Hall_take) l15 c15 k15
  have b15 := F15.binds (ps := ["self", "thing", "key"]) fun _ _ _ _ _ _ us hl => match us, hl with | [_, _, _], _ => rfl
  have F16 := fun_mk (st := s_Hall_things) l16 c16 k16
  have b16 := F16.binds (ps := ["self"]) fun _ _ _ _ _ _ us hl => match us, hl with | [_], _ => rfl
  have F17 := fun_mk (st := s_Hall_gone) l17 c17 k17
  have b17 := F17.binds (ps := ["self"]) fun _ _ _ _ _ _ us hl => match us, hl with | [_], _ => rfl
  have F18 := fun_mk (st := s_Hall_at_work) l18 c18 k18
  have b18 := F18.binds (ps := ["self"]) fun _ _ _ _ _ _ us hl => match us, hl with | [_], _ => rfl
  have F19 := fun_mk (st := s_Hall_let_all_go) l19 c19 k19
  have b19 := F19.binds (ps := ["self", "things"]) fun _ _ _ _ _ _ us hl => match us, hl with | [_, _], _ => rfl
  have F20 := fun_mk (st := s_led_to) l20 c20 k20
  have b20 := F20.binds (ps := ["thing"]) fun _ _ _ _ _ _ us hl => match us, hl with | [_], _ => rfl
  have F21 := fun_mk (st := s_reached) l21 c21 k21
  have b21 := F21.binds (ps := ["hall", "roots"]) fun _ _ _ _ _ _ us hl => match us, hl with | [_, _], _ => rfl
  have F22 := fun_mk (st := s_without) l22 c22 k22
  have b22 := F22.binds (ps := ["hall", "things", "roots"]) fun _ _ _ _ _ _ us hl => match us, hl with | [_, _, _], _ => rfl
  have F23 := fun_mk (st := s_others_there) l23 c23 k23
  have b23 := F23.binds (ps := ["hall", "things"]) fun _ _ _ _ _ _ us hl => match us, hl with | [_, _], _ => rfl
  have F24 := fun_mk (st := s_swept) l24 c24 k24
  have b24 := F24.binds (ps := ["hall", "around"]) fun _ _ _ _ _ _ us hl => match us, hl with | [_, _], _ => rfl
  have F25 := fun_mk (st := s__law_mixed) l25 c25 k25
  have b25 := F25.binds (ps := ["_law_number", "_law_k"]) fun _ _ _ _ _ _ us hl => match us, hl with | [_, _], _ => rfl
  have F26 := fun_mk (st := s__law_well) l26 c26 k26
  have b26 := F26.binds (ps := ["_law_script", "_law_first"]) fun _ _ _ _ _ _ us hl => match us, hl with | [_, _], _ => rfl
  have F27 := fun_mk (st := s__law_dig) l27 c27 k27
  have b27 := F27.binds (ps := ["_law_well_here", "_law_most"]) fun _ _ _ _ _ _ us hl => match us, hl with | [_, _], _ => rfl
  have F28 := fun_mk (st := s__law_model) l28 c28 k28
  have b28 := F28.binds (ps := ["_law_ender"]) fun _ _ _ _ _ _ us hl => match us, hl with | [_], _ => rfl
  have F29 := fun_mk (st := s__law_count) l29 c29 k29
  have b29 := F29.binds (ps := ["_law_m", "_law_n"]) fun _ _ _ _ _ _ us hl => match us, hl with | [_, _], _ => rfl
  have F30 := fun_mk (st := s__law_loosed) l30 c30 k30
  have b30 := F30.binds (ps := ["_law_m", "_law_value_here"]) fun _ _ _ _ _ _ us hl => match us, hl with | [_, _], _ => rfl
  have F31 := fun_mk (st := s__law_left) l31 c31 k31
  have b31 := F31.binds (ps := ["_law_m", "_law_n"]) fun _ _ _ _ _ _ us hl => match us, hl with | [_, _], _ => rfl
  have F32 := fun_mk (st := s__law_emptied) l32 c32 k32
  have b32 := F32.binds (ps := ["_law_m", "_law_n"]) fun _ _ _ _ _ _ us hl => match us, hl with | [_, _], _ => rfl
  have F33 := fun_mk (st := s__law_ask) l33 c33 k33
  have b33 := F33.binds (ps := ["_law_m", "_law_n"]) fun _ _ _ _ _ _ us hl => match us, hl with | [_, _], _ => rfl
  have F34 := fun_mk (st := s__law_worked) l34 c34 k34
  have b34 := F34.binds (ps := ["_law_m"]) fun _ _ _ _ _ _ us hl => match us, hl with | [_], _ => rfl
  have F35 := fun_mk (st := s__law_parted) l35 c35 k35
  have b35 := F35.binds (ps := ["_law_m", "_law_deed"]) fun _ _ _ _ _ _ us hl => match us, hl with | [_, _], _ => rfl
  have F36 := fun_mk (st := s__law_modelled) l36 c36 k36
  have b36 := F36.binds (ps := ["_law_m", "_law_deed"]) fun _ _ _ _ _ _ us hl => match us, hl with | [_, _], _ => rfl
  have F37 := fun_mk (st := s__law_near) l37 c37 k37
  have b37 := F37.binds (ps := ["_law_m", "_law_values_here"]) fun _ _ _ _ _ _ us hl => match us, hl with | [_, _], _ => rfl
  have F38 := fun_mk (st := s__law_swept) l38 c38 k38
  have b38 := F38.binds (ps := ["_law_m", "_law_values_here"]) fun _ _ _ _ _ _ us hl => match us, hl with | [_, _], _ => rfl
  have F39 := fun_mk (st := s__law_as) l39 c39 k39
  have b39 := F39.binds (ps := ["_law_things", "_law_value_here"]) fun _ _ _ _ _ _ us hl => match us, hl with | [_, _], _ => rfl
  have F40 := fun_mk (st := s__law_back) l40 c40 k40
  have b40 := F40.binds (ps := ["_law_value_here"]) fun _ _ _ _ _ _ us hl => match us, hl with | [_], _ => rfl
  have F41 := fun_mk (st := s__law_done) l41 c41 k41
  have b41 := F41.binds (ps := ["_law_hall", "_law_things", "_law_deed"]) fun _ _ _ _ _ _ us hl => match us, hl with | [_, _, _], _ => rfl
  have F42 := fun_mk (st := s__law_do) l42 c42 k42
  have b42 := F42.binds (ps := ["_law_hall", "_law_things", "_law_m", "_law_deed"]) fun _ _ _ _ _ _ us hl => match us, hl with | [_, _, _, _], _ => rfl
  have F43 := fun_mk (st := s__law_met_things) l43 c43 k43
  have b43 := F43.binds (ps := ["_law_things"]) fun _ _ _ _ _ _ us hl => match us, hl with | [_], _ => rfl
  have F44 := fun_mk (st := s__law_alike) l44 c44 k44
  have b44 := F44.binds (ps := ["_law_hall", "_law_things", "_law_m"]) fun _ _ _ _ _ _ us hl => match us, hl with | [_, _, _], _ => rfl
  have F45 := fun_mk (st := s__law_key) l45 c45 k45
  have b45 := F45.binds (ps := ["_law_well_here"]) fun _ _ _ _ _ _ us hl => match us, hl with | [_], _ => rfl
  have F46 := fun_mk (st := s__law_value) l46 c46 k46
  have b46 := F46.binds (ps := ["_law_well_here", "_law_m"]) fun _ _ _ _ _ _ us hl => match us, hl with | [_, _], _ => rfl
  have F47 := fun_mk (st := s__law_some) l47 c47 k47
  have b47 := F47.binds (ps := ["_law_well_here", "_law_m"]) fun _ _ _ _ _ _ us hl => match us, hl with | [_, _], _ => rfl
  have F48 := fun_mk (st := s__law_begun) l48 c48 k48
  have b48 := F48.binds (ps := ["_law_well_here", "_law_m", "_law_many"]) fun _ _ _ _ _ _ us hl => match us, hl with | [_, _, _], _ => rfl
  have F49 := fun_mk (st := s__law_values) l49 c49 k49
  have b49 := F49.binds (ps := ["_law_well_here", "_law_m"]) fun _ _ _ _ _ _ us hl => match us, hl with | [_, _], _ => rfl
  have F50 := fun_mk (st := s_law) l50 c50 k50
  refine ⟨PySem.W.fnOf "law" "law" (defArgs s_law) (defBody s_law) (defScope s_law) .none kV50 dc50 pm50 an50 cd50 ct50, fun s v => .of_eq rfl, fun base _ _ => ?_⟩
  have G_mk_Thing : DL.MkDef l.prog w K mg base _ "Thing" C_Thing ["self", "form", "number", "own"] _ := ⟨f1, _, ⟨mk_Thing, a1, i1, kc_Thing⟩, ok_thinit F1 T.toTxt, PySem.W.mg_of X G aC_Thing, b1⟩
  have G_mk_Held : DL.MkDef l.prog w K mg base _ "Held" C_Held ["self", "values"] _ := ⟨f2, _, ⟨mk_Held, a2, i2, kc_Held⟩, ok_heinit F2 T, PySem.W.mg_of X G aC_Held, b2⟩
  have G_Held_held : DL.MDef l.prog w K mg base _ C_Held "held" ["self"] _ := ⟨f3, _, ok_held F3 T, ⟨a3, i3, k3⟩, b3⟩
  have G_heldN : DL.MDef l.prog w K mg base _ C_Held "held" ["self"] _ := ⟨f3, _, ok_heldN F3 T, ⟨a3, i3, k3⟩, b3⟩
  have G_mk_Hall : DL.MkDef l.prog w K mg base _ "Hall" C_Hall ["self", "ender"] _ := ⟨f4, _, ⟨mk_Hall, a4, i4, kc_Hall⟩, ok_hainit F4 T.toTxt, PySem.W.mg_of X G aC_Hall, b4⟩
  have G_Hall_make : DL.MDef l.prog w K mg base _ C_Hall "make" ["self", "form", "own"] _ := ⟨f5, _, ok_make (en := .non) F5 T.toTxt G_mk_Thing, ⟨a5, i5, k5⟩, b5⟩
  have G_Hall_hold : DL.MDef l.prog w K mg base _ C_Hall "hold" ["self", "value"] _ := ⟨f6, _, ok_hold (en := .non) F6 T.toTxt, ⟨a6, i6, k6⟩, b6⟩
  have G_Hall_let_go : DL.MDef l.prog w K mg base _ C_Hall "let_go" ["self", "thing"] _ := ⟨f7, _, ok_let_in (en := .non) F7 T.toTxt, ⟨a7, i7, k7⟩, b7⟩
  have G_Hall_loose : DL.MDef l.prog w K mg base _ C_Hall "loose" ["self", "value"] _ := ⟨f8, _, ok_loose_in F8 T.toTxt G_Hall_let_go, ⟨a8, i8, k8⟩, b8⟩
  have G_Hall_empty : DL.MDef l.prog w K mg base _ C_Hall "empty" ["self", "thing"] _ := ⟨f9, _, ok_empty F9 T.toTxt G_Hall_loose, ⟨a9, i9, k9⟩, b9⟩
  have G_Hall_be_gone : DL.MDef l.prog w K mg base _ C_Hall "be_gone" ["self", "thing"] _ := ⟨f10, _, ok_be_gone (en := .non) F10 T.toTxt, ⟨a10, i10, k10⟩, b10⟩
  have G_Hall_ask_last : DL.MDef l.prog w K mg base _ C_Hall "ask_last" ["self", "thing"] _ := ⟨f11, _, (ok_ask_no F11 T.toTxt).mono (by decide : 1 ≤ 3), ⟨a11, i11, k11⟩, b11⟩
  have G_ask4 : DL.MDef l.prog w K mg base _ C_Hall "ask_last" ["self", "thing"] _ := ⟨f11, _, (ok_ask_no F11 T.toTxt).mono (by decide : 1 ≤ 4), ⟨a11, i11, k11⟩, b11⟩
  have G_Hall_turn : DL.MDef l.prog w K mg base _ C_Hall "turn" ["self", "thing"] _ := ⟨f12, _, ok_turn HM.askNo_ok F12 T.toTxt (by decide) G_Hall_ask_last G_Hall_be_gone G_Hall_empty, ⟨a12, i12, k12⟩, b12⟩
  have G_Hall_work : DL.MDef l.prog w K mg base _ C_Hall "work" ["self"] _ := ⟨f13, _, ok_work HM.askNo_ok F13 T.toTxt G_Hall_turn, ⟨a13, i13, k13⟩, b13⟩
  have G_let_go : DL.MDef l.prog w K mg base _ C_Hall "let_go" ["self", "thing"] _ := ⟨f7, _, ok_let_go HM.askNo_ok F7 T.toTxt G_Hall_work, ⟨a7, i7, k7⟩, b7⟩
  have G_loose : DL.MDef l.prog w K mg base _ C_Hall "loose" ["self", "value"] _ := ⟨f8, _, ok_loose F8 T.toTxt G_let_go, ⟨a8, i8, k8⟩, b8⟩
  have G_Hall_put : DL.MDef l.prog w K mg base _ C_Hall "put" ["self", "thing", "key", "value"] _ := ⟨f14, _, ok_put (by decide) F14 T.toTxt G_Hall_hold G_loose, ⟨a14, i14, k14⟩, b14⟩
  have G_Hall_take : DL.MDef l.prog w K mg base _ C_Hall "take" ["self", "thing", "key"] _ := ⟨f15, _, ok_take F15 T.toTxt G_loose, ⟨a15, i15, k15⟩, b15⟩
  have G_Hall_things : DL.MDef l.prog w K mg base _ C_Hall "things" ["self"] _ := ⟨f16, _, ok_things (en := .non) F16 T.toTxt, ⟨a16, i16, k16⟩, b16⟩
  have G_Hall_gone : DL.MDef l.prog w K mg base _ C_Hall "gone" ["self"] _ := ⟨f17, _, ok_gone (en := .non) F17 T.toTxt, ⟨a17, i17, k17⟩, b17⟩
  have G_Hall_at_work : DL.MDef l.prog w K mg base _ C_Hall "at_work" ["self"] _ := ⟨f18, _, ok_at_work (en := .non) F18 T.toTxt, ⟨a18, i18, k18⟩, b18⟩
  have G_Hall_let_all_go : DL.MDef l.prog w K mg base _ C_Hall "let_all_go" ["self", "things"] _ := ⟨f19, _, (ok_all_go (by decide : 3 ≤ 5) F19 T.toTxt G_Hall_be_gone G_Hall_empty G_Hall_work).mono (by decide : 6 ≤ 7), ⟨a19, i19, k19⟩, b19⟩
  have G_led_to : Def l.prog w K mg base _ "led_to" ["thing"] _ := ⟨f20, _, ok_ledto (en := .non) F20 T G_Held_held, PySem.W.mg_of X G a20, k20, b20⟩
  have G_reached : Def l.prog w K mg base _ "reached" ["hall", "roots"] _ := ⟨f21, _, ok_reached F21 T G_led_to, PySem.W.mg_of X G a21, k21, b21⟩
  have G_without : Def l.prog w K mg base _ "without" ["hall", "things", "roots"] _ := ⟨f22, _, ok_without F22 T G_reached, PySem.W.mg_of X G a22, k22, b22⟩
  have G_others_there : Def l.prog w K mg base _ "others_there" ["hall", "things"] _ := ⟨f23, _, ok_others F23 T.toTxt G_Hall_things, PySem.W.mg_of X G a23, k23, b23⟩
  have G_swept : Def l.prog w K mg base _ "swept" ["hall", "around"] _ := ⟨f24, _, ok_swept HM.askNo_cl (by decide : 4 ≤ 4) F24 T G_Hall_at_work G_Hall_things G_without G_Held_held G_Hall_hold G_ask4 G_others_there G_Hall_let_all_go, PySem.W.mg_of X G a24, k24, b24⟩
  have G__law_mixed : Def l.prog w K mg base _ "_law_mixed" ["_law_number", "_law_k"] _ := ⟨f25, _, ok_mixed F25, PySem.W.mg_of X G a25, k25, b25⟩
  have G__law_well : Def l.prog w K mg base _ "_law_well" ["_law_script", "_law_first"] _ := ⟨f26, _, ok_well F26 ⟨PySem.W.mg_none_of X G z1, PySem.W.mg_none_of X G z16⟩, PySem.W.mg_of X G a26, k26, b26⟩
  have G__law_dig : Def l.prog w K mg base _ "_law_dig" ["_law_well_here", "_law_most"] _ := ⟨f27, _, ok_dig F27 ⟨PySem.W.mg_none_of X G z1, PySem.W.mg_none_of X G z16⟩ G__law_mixed, PySem.W.mg_of X G a27, k27, b27⟩
  have G__law_model : Def l.prog w K mg base _ "_law_model" ["_law_ender"] _ := ⟨f28, _, ok_model F28 T.toTxt, PySem.W.mg_of X G a28, k28, b28⟩
  have G__law_count : Def l.prog w K mg base _ "_law_count" ["_law_m", "_law_n"] _ := ⟨f29, _, ok_count F29 T.toTxt, PySem.W.mg_of X G a29, k29, b29⟩
  have G__law_loosed : Def l.prog w K mg base _ "_law_loosed" ["_law_m", "_law_value_here"] _ := ⟨f30, _, ok_loosed_in F30 T.toTxt G__law_count, PySem.W.mg_of X G a30, k30, b30⟩
  have G__law_left : Def l.prog w K mg base _ "_law_left" ["_law_m", "_law_n"] _ := ⟨f31, _, ok_left F31 T.toTxt, PySem.W.mg_of X G a31, k31, b31⟩
  have G__law_emptied : Def l.prog w K mg base _ "_law_emptied" ["_law_m", "_law_n"] _ := ⟨f32, _, ok_emptied F32 T.toTxt G__law_loosed, PySem.W.mg_of X G a32, k32, b32⟩
  have G__law_ask : Def l.prog w K mg base _ "_law_ask" ["_law_m", "_law_n"] _ := ⟨f33, _, ok_askm3 F33 T.toTxt, PySem.W.mg_of X G a33, k33, b33⟩
  have G__law_worked : Def l.prog w K mg base _ "_law_worked" ["_law_m"] _ := ⟨f34, _, ok_worked HM.askNo_good (pot := fun _ => 0) (fun h => by cases h; exact Nat.le_refl _) (by decide) F34 T.toTxt G__law_count G__law_ask G__law_left G__law_emptied, PySem.W.mg_of X G a34, k34, b34⟩
  have G_loosed : Def l.prog w K mg base _ "_law_loosed" ["_law_m", "_law_value_here"] _ := ⟨f30, _, ok_loosed (by decide) F30 T.toTxt G__law_count G__law_worked, PySem.W.mg_of X G a30, k30, b30⟩
  have G__law_parted : Def l.prog w K mg base _ "_law_parted" ["_law_m", "_law_deed"] _ := ⟨f35, _, ok_parted F35 T.toTxt G_loosed, PySem.W.mg_of X G a35, k35, b35⟩
  have G__law_modelled : Def l.prog w K mg base _ "_law_modelled" ["_law_m", "_law_deed"] _ := ⟨f36, _, ok_modelled9 (ok_modelled F36 T.toTxt G_loosed G__law_parted), PySem.W.mg_of X G a36, k36, b36⟩
  have G__law_near : Def l.prog w K mg base _ "_law_near" ["_law_m", "_law_values_here"] _ := ⟨f37, _, ok_near (x := ⟨[], false⟩) F37 T.toTxt, PySem.W.mg_of X G a37, k37, b37⟩
  have G__law_swept : Def l.prog w K mg base _ "_law_swept" ["_law_m", "_law_values_here"] _ := ⟨f38, _, ok_sweptM HM.askNo_cl (pot := fun _ => 0) (fun h => by cases h; exact Nat.le_refl _) (by decide : 3 ≤ 3) F38 T.toTxt G__law_near G__law_ask G__law_left G__law_emptied G__law_worked, PySem.W.mg_of X G a38, k38, b38⟩
  have G__law_as : Def l.prog w K mg base _ "_law_as" ["_law_things", "_law_value_here"] _ := ⟨f39, _, ok_as F39 T.toTxt, PySem.W.mg_of X G a39, k39, b39⟩
  have G__law_back : Def l.prog w K mg base _ "_law_back" ["_law_value_here"] _ := ⟨f40, _, ok_back F40 T.toTxt, PySem.W.mg_of X G a40, k40, b40⟩
  have G__law_done : Def l.prog w K mg base _ "_law_done" ["_law_hall", "_law_things", "_law_deed"] _ := ⟨f41, _, ok_done HM.askNo_ok (by decide) F41 T.toTxt G_Hall_make G_Hall_hold G_loose G_Hall_put G_Hall_take G__law_as, PySem.W.mg_of X G a41, k41, b41⟩
  have G__law_do : Def l.prog w K mg base _ "_law_do" ["_law_hall", "_law_things", "_law_m", "_law_deed"] _ := ⟨f42, _, ok_do (by decide) F42 T.toTxt G__law_done G__law_modelled, PySem.W.mg_of X G a42, k42, b42⟩
  have G__law_met_things : Def l.prog w K mg base _ "_law_met_things" ["_law_things"] _ := ⟨f43, _, ok_met (en := .non) F43 T.toTxt, PySem.W.mg_of X G a43, k43, b43⟩
  have G__law_alike : Def l.prog w K mg base _ "_law_alike" ["_law_hall", "_law_things", "_law_m"] _ := ⟨f44, _, ok_alike F44 T.toTxt G_Hall_things G_Hall_gone G__law_met_things G__law_count G__law_back, PySem.W.mg_of X G a44, k44, b44⟩
  have G__law_key : Def l.prog w K mg base _ "_law_key" ["_law_well_here"] _ := ⟨f45, _, ok_key F45 T.toTxt G__law_dig, PySem.W.mg_of X G a45, k45, b45⟩
  have G__law_value : Def l.prog w K mg base _ "_law_value" ["_law_well_here", "_law_m"] _ := ⟨f46, _, ok_value (x := ⟨[], false⟩) F46 T.toTxt G__law_dig, PySem.W.mg_of X G a46, k46, b46⟩
  have G__law_some : Def l.prog w K mg base _ "_law_some" ["_law_well_here", "_law_m"] _ := ⟨f47, _, ok_some F47 T.toTxt G__law_dig G__law_key G__law_value, PySem.W.mg_of X G a47, k47, b47⟩
  have G__law_begun : Def l.prog w K mg base _ "_law_begun" ["_law_well_here", "_law_m", "_law_many"] _ := ⟨f48, _, ok_begun F48 T.toTxt G__law_dig G__law_key, PySem.W.mg_of X G a48, k48, b48⟩
  have G__law_values : Def l.prog w K mg base _ "_law_values" ["_law_well_here", "_law_m"] _ := ⟨f49, _, ok_values F49 T.toTxt G__law_dig G__law_value, PySem.W.mg_of X G a49, k49, b49⟩
  exact law_of (ok_law F50 T G_mk_Hall G_mk_Held G__law_well G__law_dig G__law_model G__law_begun G__law_do G__law_some G__law_alike G__law_values G__law_as G_heldN G_swept G__law_swept)
theorem walk {l : PySem.W.OpenLaw} {q : Program} {loose : List Str} {XP : (Str → Option Value) → Heap → Prop} {YP : World → Heap → Prop} {d : DefRec} {K : Params → PySem.W.Frag} (hn : l.most = some 63) (hdf : d.params.defaults = [])
    (hY : ∀ (w : World) (h : Heap), YP w h → (K w.params).In h)
    (F : ∀ (w : World) (mg : Str → Option Value) (fa : Addr) (h : Heap), (K w.params).In h → h.Ns mainGlobals mg → mg d.name = some (.ref fa) →
      ∃ fd : FuncData, (∀ (s : Shared) (u : Value), BindsTo s fd ⟨[u], []⟩ [("_law_script", u)]) ∧ ∀ base : Heap, (K w.params).In base → base.Ns mainGlobals mg → FnOk l.prog w (K w.params) mg base CX0 11 fa fd ["_law_script"] (spLaw (K w.params))) :
    PySem.W.WalkO q loose XP YP l.row.toRowW d [] (fun f vs => PySem.call f vs) :=
  L2.walk_of (n := 63) (k := 11) (x := "_law_script") (CX := fun _ => CX0) (sp := fun w => spLaw (K w.params)) hn (by decide) hdf ⟨rfl, by decide, by decide⟩ hY F (fun _ _ a ns hl _ hS => ⟨a, ns, rfl, hS, hl, fun _ => rfl⟩) fun _ _ _ _ _ z => z
end
end K
open PySem PySem.W PyProof.Rows
set_option maxRecDepth 100000 in
set_option maxHeartbeats 0 in
theorem PySem.Challenge.cw_snakehall_k30_swept_in_order_holds : PySem.Challenge.rw_snakehall_k30_swept_in_order.Holds := by
  w_on; o_law; k_head; (case hw => w_witness2)
  k_fill
  refine K.walk (l := PySem.Challenge.rw_snakehall_k30_swept_in_order) rfl rfl (fun w h Y => PySem.W.kIn_of Y) ?F
  case F =>
    intro w mg fa h KX G hmg
    refine' K.all_mk KX G hmg ?aC_Thing ?pg_Thing ?hd_Thing ?po_Thing ?sa_Thing ?mk_Thing ?kc_Thing ?nf_Thing_form ?nf_Thing_number ?nf_Thing_count ?nf_Thing_parts ?nf_Thing_own ?nf_Thing_ended ?nf_Thing_waits ?iA_Thing ?iB_Thing ?iC_Thing ?iD_Thing ?it0_Thing ?it1_Thing ?it2_Thing ?if0_Thing ?if1_Thing ?if2_Thing ?if3_Thing ?aC_Hall ?pg_Hall ?hd_Hall ?po_Hall ?sa_Hall ?mk_Hall ?kc_Hall ?nf_Hall_ender ?nf_Hall_many ?nf_Hall_there ?nf_Hall_left ?nf_Hall_row ?nf_Hall_lasts ?aC_Held ?pg_Held ?hd_Held ?po_Held ?sa_Held ?mk_Held ?kc_Held ?nf_Held_has ?iA_Held ?iB_Held ?iC_Held ?iD_Held ?it0_Held ?it1_Held ?it2_Held ?if0_Held ?if1_Held ?if2_Held ?if3_Held ?a1 ?i1 ?l1 ?c1 ?k1 ?a2 ?i2 ?l2 ?c2 ?k2 ?a3 ?i3 ?l3 ?c3 ?k3 ?a4 ?i4 ?l4 ?c4 ?k4 ?a5 ?i5 ?l5 ?c5 ?k5 ?a6 ?i6 ?l6 ?c6 ?k6 ?a7 ?i7 ?l7 ?c7 ?k7 ?a8 ?i8 ?l8 ?c8 ?k8 ?a9 ?i9 ?l9 ?c9 ?k9 ?a10 ?i10 ?l10 ?c10 ?k10 ?a11 ?i11 ?l11 ?c11 ?k11 ?a12 ?i12 ?l12 ?c12 ?k12 ?a13 ?i13 ?l13 ?c13 ?k13 ?a14 ?i14 ?l14 ?c14 ?k14 ?a15 ?i15 ?l15 ?c15 ?k15 ?a16 ?i16 ?l16 ?c16 ?k16 ?a17 ?i17 ?l17 ?c17 ?k17 ?a18 ?i18 ?l18 ?c18 ?k18 ?a19 ?i19 ?l19 ?c19 ?k19 ?a20 ?l20 ?c20 ?k20 ?a21 ?l21 ?c21 ?k21 ?a22 ?l22 ?c22 ?k22 ?a23 ?l23 ?c23 ?k23 ?a24 ?l24 ?c24 ?k24 ?a25 ?l25 ?c25 ?k25 ?a26 ?l26 ?c26 ?k26 ?a27 ?l27 ?c27 ?k27 ?a28 ?l28 ?c28 ?k28 ?a29 ?l29 ?c29 ?k29 ?a30 ?l30 ?c30 ?k30 ?a31 ?l31 ?c31 ?k31 ?a32 ?l32 ?c32 ?k32 ?a33 ?l33 ?c33 ?k33 ?a34 ?l34 ?c34 ?k34 ?a35 ?l35 ?c35 ?k35 ?a36 ?l36 ?c36 ?k36 ?a37 ?l37 ?c37 ?k37 ?a38 ?l38 ?c38 ?k38 ?a39 ?l39 ?c39 ?k39 ?a40 ?l40 ?c40 ?k40 ?a41 ?l41 ?c41 ?k41 ?a42 ?l42 ?c42 ?k42 ?a43 ?l43 ?c43 ?k43 ?a44 ?l44 ?c44 ?k44 ?a45 ?l45 ?c45 ?k45 ?a46 ?l46 ?c46 ?k46 ?a47 ?l47 ?c47 ?k47 ?a48 ?l48 ?c48 ?k48 ?a49 ?l49 ?c49 ?k49 ?a50 ?l50 ?c50 ?k50 ?z1 ?z2 ?z3 ?z4 ?z5 ?z6 ?z7 ?z8 ?z9 ?z10 ?z11 ?z12 ?z13 ?z14 ?z15 ?z16
    (case aC_Thing => k_is)
    (case pg_Thing => k_is)
    (case hd_Thing => k_is)
    (case po_Thing => k_is)
    (case sa_Thing => k_is)
    (case mk_Thing => k_is)
    (case kc_Thing => k_is)
    (case nf_Thing_form => k_is)
    (case nf_Thing_number => k_is)
    (case nf_Thing_count => k_is)
    (case nf_Thing_parts => k_is)
    (case nf_Thing_own => k_is)
    (case nf_Thing_ended => k_is)
    (case nf_Thing_waits => k_is)
    (case iA_Thing => k_is)
    (case iB_Thing => k_is)
    (case iC_Thing => k_is)
    (case iD_Thing => k_is)
    (case it0_Thing => kit_is)
    (case it1_Thing => kit_is)
    (case it2_Thing => kit_is)
    (case if0_Thing => kit_is)
    (case if1_Thing => kit_is)
    (case if2_Thing => kit_is)
    (case if3_Thing => kit_is)
    (case aC_Hall => k_is)
    (case pg_Hall => k_is)
    (case hd_Hall => k_is)
    (case po_Hall => k_is)
    (case sa_Hall => k_is)
    (case mk_Hall => k_is)
    (case kc_Hall => k_is)
    (case nf_Hall_ender => k_is)
    (case nf_Hall_many => k_is)
    (case nf_Hall_there => k_is)
    (case nf_Hall_left => k_is)
    (case nf_Hall_row => k_is)
    (case nf_Hall_lasts => k_is)
    (case aC_Held => k_is)
    (case pg_Held => k_is)
    (case hd_Held => k_is)
    (case po_Held => k_is)
    (case sa_Held => k_is)
    (case mk_Held => k_is)
    (case kc_Held => k_is)
    (case nf_Held_has => k_is)
    (case iA_Held => k_is)
    (case iB_Held => k_is)
    (case iC_Held => k_is)
    (case iD_Held => k_is)
    (case it0_Held => kit_is)
    (case it1_Held => kit_is)
    (case it2_Held => kit_is)
    (case if0_Held => kit_is)
    (case if1_Held => kit_is)
    (case if2_Held => kit_is)
    (case if3_Held => kit_is)
    (case a1 => k_is)
    (case i1 => k_is)
    (case l1 => k_is)
    (case c1 => k_is)
    (case k1 => k_is)
    (case a2 => k_is)
    (case i2 => k_is)
    (case l2 => k_is)
    (case c2 => k_is)
    (case k2 => k_is)
    (case a3 => k_is)
    (case i3 => k_is)
    (case l3 => k_is)
    (case c3 => k_is)
    (case k3 => k_is)
    (case a4 => k_is)
    (case i4 => k_is)
    (case l4 => k_is)
    (case c4 => k_is)
    (case k4 => k_is)
    (case a5 => k_is)
    (case i5 => k_is)
    (case l5 => k_is)
    (case c5 => k_is)
    (case k5 => k_is)
    (case a6 => k_is)
    (case i6 => k_is)
    (case l6 => k_is)
    (case c6 => k_is)
    (case k6 => k_is)
    (case a7 => k_is)
    (case i7 => k_is)
    (case l7 => k_is)
    (case c7 => k_is)
    (case k7 => k_is)
    (case a8 => k_is)
    (case i8 => k_is)
    (case l8 => k_is)
    (case c8 => k_is)
    (case k8 => k_is)
    (case a9 => k_is)
    (case i9 => k_is)
    (case l9 => k_is)
    (case c9 => k_is)
    (case k9 => k_is)
    (case a10 => k_is)
    (case i10 => k_is)
    (case l10 => k_is)
    (case c10 => k_is)
    (case k10 => k_is)
    (case a11 => k_is)
    (case i11 => k_is)
    (case l11 => k_is)
    (case c11 => k_is)
    (case k11 => k_is)
    (case a12 => k_is)
    (case i12 => k_is)
    (case l12 => k_is)
    (case c12 => k_is)
    (case k12 => k_is)
    (case a13 => k_is)
    (case i13 => k_is)
    (case l13 => k_is)
    (case c13 => k_is)
    (case k13 => k_is)
    (case a14 => k_is)
    (case i14 => k_is)
    (case l14 => k_is)
    (case c14 => k_is)
    (case k14 => k_is)
    (case a15 => k_is)
    (case i15 => k_is)
    (case l15 => k_is)
    (case c15 => k_is)
    (case k15 => k_is)
    (case a16 => k_is)
    (case i16 => k_is)
    (case l16 => k_is)
    (case c16 => k_is)
    (case k16 => k_is)
    (case a17 => k_is)
    (case i17 => k_is)
    (case l17 => k_is)
    (case c17 => k_is)
    (case k17 => k_is)
    (case a18 => k_is)
    (case i18 => k_is)
    (case l18 => k_is)
    (case c18 => k_is)
    (case k18 => k_is)
    (case a19 => k_is)
    (case i19 => k_is)
    (case l19 => k_is)
    (case c19 => k_is)
    (case k19 => k_is)
    (case a20 => k_is)
    (case l20 => k_is)
    (case c20 => k_is)
    (case k20 => k_is)
    (case a21 => k_is)
    (case l21 => k_is)
    (case c21 => k_is)
    (case k21 => k_is)
    (case a22 => k_is)
    (case l22 => k_is)
    (case c22 => k_is)
    (case k22 => k_is)
    (case a23 => k_is)
    (case l23 => k_is)
    (case c23 => k_is)
    (case k23 => k_is)
    (case a24 => k_is)
    (case l24 => k_is)
    (case c24 => k_is)
    (case k24 => k_is)
    (case a25 => k_is)
    (case l25 => k_is)
    (case c25 => k_is)
    (case k25 => k_is)
    (case a26 => k_is)
    (case l26 => k_is)
    (case c26 => k_is)
    (case k26 => k_is)
    (case a27 => k_is)
    (case l27 => k_is)
    (case c27 => k_is)
    (case k27 => k_is)
    (case a28 => k_is)
    (case l28 => k_is)
    (case c28 => k_is)
    (case k28 => k_is)
    (case a29 => k_is)
    (case l29 => k_is)
    (case c29 => k_is)
    (case k29 => k_is)
    (case a30 => k_is)
    (case l30 => k_is)
    (case c30 => k_is)
    (case k30 => k_is)
    (case a31 => k_is)
    (case l31 => k_is)
    (case c31 => k_is)
    (case k31 => k_is)
    (case a32 => k_is)
    (case l32 => k_is)
    (case c32 => k_is)
    (case k32 => k_is)
    (case a33 => k_is)
    (case l33 => k_is)
    (case c33 => k_is)
    (case k33 => k_is)
    (case a34 => k_is)
    (case l34 => k_is)
    (case c34 => k_is)
    (case k34 => k_is)
    (case a35 => k_is)
    (case l35 => k_is)
    (case c35 => k_is)
    (case k35 => k_is)
    (case a36 => k_is)
    (case l36 => k_is)
    (case c36 => k_is)
    (case k36 => k_is)
    (case a37 => k_is)
    (case l37 => k_is)
    (case c37 => k_is)
    (case k37 => k_is)
    (case a38 => k_is)
    (case l38 => k_is)
    (case c38 => k_is)
    (case k38 => k_is)
    (case a39 => k_is)
    (case l39 => k_is)
    (case c39 => k_is)
    (case k39 => k_is)
    (case a40 => k_is)
    (case l40 => k_is)
    (case c40 => k_is)
    (case k40 => k_is)
    (case a41 => k_is)
    (case l41 => k_is)
    (case c41 => k_is)
    (case k41 => k_is)
    (case a42 => k_is)
    (case l42 => k_is)
    (case c42 => k_is)
    (case k42 => k_is)
    (case a43 => k_is)
    (case l43 => k_is)
    (case c43 => k_is)
    (case k43 => k_is)
    (case a44 => k_is)
    (case l44 => k_is)
    (case c44 => k_is)
    (case k44 => k_is)
    (case a45 => k_is)
    (case l45 => k_is)
    (case c45 => k_is)
    (case k45 => k_is)
    (case a46 => k_is)
    (case l46 => k_is)
    (case c46 => k_is)
    (case k46 => k_is)
    (case a47 => k_is)
    (case l47 => k_is)
    (case c47 => k_is)
    (case k47 => k_is)
    (case a48 => k_is)
    (case l48 => k_is)
    (case c48 => k_is)
    (case k48 => k_is)
    (case a49 => k_is)
    (case l49 => k_is)
    (case c49 => k_is)
    (case k49 => k_is)
    (case a50 => k_is)
    (case l50 => k_is)
    (case c50 => k_is)
    (case k50 => k_is)
    (case z1 => k_is)
    (case z2 => k_is)
    (case z3 => k_is)
    (case z4 => k_is)
    (case z5 => k_is)
    (case z6 => k_is)
    (case z7 => k_is)
    (case z8 => k_is)
    (case z9 => k_is)
    (case z10 => k_is)
    (case z11 => k_is)
    (case z12 => k_is)
    (case z13 => k_is)
    (case z14 => k_is)
    (case z15 => k_is)
    (case z16 => k_is)

