import PyProof.Rows.All
import Wide.All
import OpenK.AllK
import Wide.FinOn
import PyProof.EqAt
import PyProof.EqKinds
import PyProof.TupleCall
import KE.KFromBytes
import HandS.Base
import HandS.Call
import HandS.List
import HandS.Ends
import HandS.Exc
import HandS.ExcInit
import HandS.ExcOwn
import HandS.TryOnly
import HandS.ClsMeth
import HandS.Dict
import HandS.Words
import HandS.More
import HandS.IsInst
import HandS.WordsExc
import HandS.ForMost
import HandS.ForExc
import HandS.Style
import HandS.Walk
import HandS.Evl
import HandS.ExcIs
import PySem.Challenge.RW_onestaff_k23_whole_one_right
set_option Elab.async false
set_option linter.all false
set_option maxRecDepth 100000
set_option maxHeartbeats 4000000
/-! A lock and the rights of one or two places: at no time is a right there, or in use, by another number than that of the lock; an old word changes nothing.
First the mathematics over a mirror of the state (no program), then a promise for each def of the text over the hand layer, last what the top has written, and the end. -/
/-! The mirror of a lock and the rights by it, and what holds of it at all times. -/
namespace K23
variable {α : Type} [DecidableEq α]
/-- a function but at one place -/
def fset {β : Type} (f : α → β) (a : α) (b : β) : α → β := fun x => if x = a then b else f x
theorem fset_same {β : Type} {f : α → β} {a : α} {b : β} : fset f a b a = b := if_pos rfl
theorem fset_ne {β : Type} {f : α → β} {a x : α} {b : β} (h : x ≠ a) : fset f a b x = f x := if_neg h

/-- t: how often it was locked; sh: for which place it is locked; op: whether it is open; g, r: the greatest number and the right of a place; ws: the words (a lock's or an opening one's, number, place); us: the right in use -/
structure M (α : Type) where
  t : Int
  sh : Option α
  op : Bool
  g : α → Int
  r : α → Option Int
  ws : List (Bool × Int × α)
  us : Option (Int × α)

structure Ok (nms : List α) (m : M α) : Prop where
  t0 : 0 ≤ m.t
  t1 : m.sh ≠ none → 1 ≤ m.t
  shn : ∀ p, m.sh = some p → p ∈ nms
  wl : ∀ n p, (true, n, p) ∈ m.ws → 1 ≤ n ∧ n ≤ m.t ∧ p ∈ nms ∧ (n ≤ m.g p ∨ (n = m.t ∧ m.sh = some p))
  wo : ∀ n p, (false, n, p) ∈ m.ws → 1 ≤ n ∧ n ≤ m.t ∧ p ∈ nms ∧ n ≤ m.g p ∧ (n = m.t → m.sh ≠ none → m.sh = some p ∧ m.us = none ∧ ∀ q, m.r q = none)
  op : m.op = true → ∃ p, m.sh = some p ∧ m.t ≤ m.g p ∧ m.us = none ∧ ∀ q, m.r q = none
  rt : ∀ p n, m.r p = some n → n = m.t ∧ m.sh = some p ∧ m.t ≤ m.g p ∧ m.us = none ∧ p ∈ nms
  us : ∀ n p, m.us = some (n, p) → n = m.t ∧ m.sh = some p ∧ m.t ≤ m.g p ∧ p ∈ nms ∧ ∀ q, m.r q = none

def init : M α := { t := 0, sh := none, op := false, g := fun _ => 0, r := fun _ => none, ws := [], us := none }
theorem ok_init (nms : List α) : Ok nms (init : M α) where
  t0 := Int.le_refl 0
  t1 := fun h => absurd rfl h
  shn := fun _ h => by cases h
  wl := fun _ _ h => by cases h
  wo := fun _ _ h => by cases h
  op := fun h => by cases h
  rt := fun _ _ h => by cases h
  us := fun _ _ h => by cases h

/-! ### the deeds -/
def lockM (m : M α) (p : α) : M α := { m with t := m.t + 1, sh := some p, op := false, ws := m.ws ++ [(true, m.t + 1, p)] }
def useM (m : M α) (p : α) (n : Int) : M α := { m with r := fset m.r p none, us := some (n, p) }
def giveM (m : M α) (p : α) (n : Int) : M α := { m with r := fset m.r p none, ws := m.ws ++ [(false, n, p)] }
def freeM (m : M α) : M α := { m with sh := none, op := false }
def endM (m : M α) : M α := { m with sh := none, op := false, us := none }
def noteM (m : M α) (n : Int) (p : α) : M α := { m with us := none, ws := m.ws ++ [(false, n, p)] }
def gotM (m : M α) (n : Int) (p : α) : M α := if n > m.g p then { m with g := fset m.g p n, r := fset m.r p (some n) } else m
/-- what an opening word of the number n finds -/
def due (m : M α) (n : Int) : Bool := m.sh.isSome && (decide (m.t = n) && !m.op)
def openM (m : M α) (n : Int) : M α := if due m n = true then { m with op := true } else m
def comeM (m : M α) (w : Bool × Int × α) : M α := if w.1 = true then gotM m w.2.1 w.2.2 else openM m w.2.1

section
variable {nms : List α} {m : M α} {p : α} {n : Int}
theorem Ok.held (o : Ok nms m) (h : m.r p = some n) : ∀ q, q ≠ p → m.r q = none := fun q hq => by
  cases e : m.r q with
  | none => rfl
  | some k =>
    have a := (o.rt q k e).2.1
    have b := (o.rt p n h).2.1
    rw [a] at b
    exact absurd (Option.some.inj b) hq
theorem ok_lock (o : Ok nms m) (hs : m.sh = none) (hp : p ∈ nms) : Ok nms (lockM m p) where
  t0 := by have := o.t0; show 0 ≤ m.t + 1; omega
  t1 := fun _ => by have := o.t0; show 1 ≤ m.t + 1; omega
  shn := fun q h => by cases h; exact hp
  wl := fun k q h => by
    have h : (true, k, q) ∈ m.ws ++ [(true, m.t + 1, p)] := h
    show 1 ≤ k ∧ k ≤ m.t + 1 ∧ q ∈ nms ∧ (k ≤ m.g q ∨ (k = m.t + 1 ∧ some p = some q))
    rcases List.mem_append.mp h with h | h
    · obtain ⟨a, b, c, d⟩ := o.wl k q h
      refine ⟨a, by omega, c, ?_⟩
      rcases d with d | ⟨_, d⟩
      · exact Or.inl d
      · rw [hs] at d
        cases d
    · have h := List.mem_singleton.mp h
      cases h
      have := o.t0
      exact ⟨by omega, Int.le_refl _, hp, Or.inr ⟨rfl, rfl⟩⟩
  wo := fun k q h => by
    have h : (false, k, q) ∈ m.ws ++ [(true, m.t + 1, p)] := h
    show 1 ≤ k ∧ k ≤ m.t + 1 ∧ q ∈ nms ∧ k ≤ m.g q ∧ (k = m.t + 1 → some p ≠ none → some p = some q ∧ m.us = none ∧ ∀ q, m.r q = none)
    rcases List.mem_append.mp h with h | h
    · obtain ⟨a, b, c, d, _⟩ := o.wo k q h
      exact ⟨a, by omega, c, d, fun e => by omega⟩
    · have h := List.mem_singleton.mp h
      cases h
  op := fun h => by cases h
  rt := fun q k h => by
    have := (o.rt q k h).2.1
    rw [hs] at this
    cases this
  us := fun k q h => by
    have := (o.us k q h).2.1
    rw [hs] at this
    cases this
theorem ok_use (o : Ok nms m) (hr : m.r p = some n) (hp : p ∈ nms) : Ok nms (useM m p n) where
  t0 := o.t0
  t1 := o.t1
  shn := o.shn
  wl := o.wl
  wo := fun k q h => by
    obtain ⟨a, b, c, d, e⟩ := o.wo k q h
    refine ⟨a, b, c, d, fun h1 h2 => ?_⟩
    have z := (e h1 h2).2.2 p
    rw [hr] at z
    cases z
  op := fun h => by
    obtain ⟨_, _, _, _, z⟩ := o.op h
    have z := z p
    rw [hr] at z
    cases z
  rt := fun q k h => by
    have h : fset m.r p none q = some k := h
    by_cases e : q = p
    · rw [e, fset_same] at h
      cases h
    · rw [fset_ne e, o.held hr q e] at h
      cases h
  us := fun k q h => by
    have h : some (n, p) = some (k, q) := h
    cases h
    obtain ⟨a, b, c, _⟩ := o.rt p n hr
    refine ⟨a, b, c, hp, fun q => ?_⟩
    show fset m.r p none q = none
    by_cases e : q = p
    · rw [e, fset_same]
    · rw [fset_ne e, o.held hr q e]
theorem give_none (o : Ok nms m) (hr : m.r p = some n) (q : α) : fset m.r p none q = none := by
  by_cases e : q = p
  · rw [e, fset_same]
  · rw [fset_ne e, o.held hr q e]
theorem ok_give (o : Ok nms m) (hr : m.r p = some n) (hp : p ∈ nms) : Ok nms (giveM m p n) where
  t0 := o.t0
  t1 := o.t1
  shn := o.shn
  wl := fun k q h => by
    have h : (true, k, q) ∈ m.ws ++ [(false, n, p)] := h
    rcases List.mem_append.mp h with h | h
    · exact o.wl k q h
    · have h := List.mem_singleton.mp h
      cases h
  wo := fun k q h => by
    have h : (false, k, q) ∈ m.ws ++ [(false, n, p)] := h
    obtain ⟨ra, rb, rc, rd, _⟩ := o.rt p n hr
    show 1 ≤ k ∧ k ≤ m.t ∧ q ∈ nms ∧ k ≤ m.g q ∧ (k = m.t → m.sh ≠ none → m.sh = some q ∧ m.us = none ∧ ∀ q, fset m.r p none q = none)
    rcases List.mem_append.mp h with h | h
    · obtain ⟨a, b, c, d, e⟩ := o.wo k q h
      exact ⟨a, b, c, d, fun h1 h2 => ⟨(e h1 h2).1, (e h1 h2).2.1, give_none o hr⟩⟩
    · have h := List.mem_singleton.mp h
      cases h
      have z := o.t1 (by rw [rb]; exact fun e => nomatch e)
      exact ⟨by omega, by omega, hp, by omega, fun _ _ => ⟨rb, rd, give_none o hr⟩⟩
  op := fun h => by
    obtain ⟨_, _, _, _, z⟩ := o.op h
    have z := z p
    rw [hr] at z
    cases z
  rt := fun q k h => by
    have h : fset m.r p none q = some k := h
    rw [give_none o hr] at h
    cases h
  us := fun k q h => by
    have z := (o.rt p n hr).2.2.2.1
    have h : m.us = some (k, q) := h
    rw [z] at h
    cases h
theorem ok_free (o : Ok nms m) (ho : m.op = true) : Ok nms (freeM m) where
  t0 := o.t0
  t1 := fun h => absurd rfl h
  shn := fun _ h => by cases h
  wl := fun k q h => by
    obtain ⟨a, b, c, d⟩ := o.wl k q h
    obtain ⟨p, e1, e2, _⟩ := o.op ho
    refine ⟨a, b, c, Or.inl ?_⟩
    rcases d with d | ⟨d1, d2⟩
    · exact d
    · rw [e1] at d2
      cases d2
      show k ≤ m.g _
      omega
  wo := fun k q h => by
    obtain ⟨a, b, c, d, _⟩ := o.wo k q h
    exact ⟨a, b, c, d, fun _ h => absurd rfl h⟩
  op := fun h => by cases h
  rt := fun q k h => by
    obtain ⟨_, _, _, _, z⟩ := o.op ho
    have h : m.r q = some k := h
    rw [z q] at h
    cases h
  us := fun k q h => by
    obtain ⟨_, _, _, z, _⟩ := o.op ho
    have h : m.us = some (k, q) := h
    rw [z] at h
    cases h
theorem ok_end (o : Ok nms m) (hu : m.us = some (n, p)) : Ok nms (endM m) where
  t0 := o.t0
  t1 := fun h => absurd rfl h
  shn := fun _ h => by cases h
  wl := fun k q h => by
    obtain ⟨a, b, c, d⟩ := o.wl k q h
    obtain ⟨e0, e1, e2, _⟩ := o.us n p hu
    refine ⟨a, b, c, Or.inl ?_⟩
    rcases d with d | ⟨d1, d2⟩
    · exact d
    · rw [e1] at d2
      cases d2
      show k ≤ m.g _
      omega
  wo := fun k q h => by
    obtain ⟨a, b, c, d, _⟩ := o.wo k q h
    exact ⟨a, b, c, d, fun _ h => absurd rfl h⟩
  op := fun h => by cases h
  rt := fun q k h => by
    obtain ⟨_, _, _, _, z⟩ := o.us n p hu
    have h : m.r q = some k := h
    rw [z q] at h
    cases h
  us := fun k q h => by cases h
theorem ok_note (o : Ok nms m) (hu : m.us = some (n, p)) : Ok nms (noteM m n p) where
  t0 := o.t0
  t1 := o.t1
  shn := o.shn
  wl := fun k q h => by
    have h : (true, k, q) ∈ m.ws ++ [(false, n, p)] := h
    rcases List.mem_append.mp h with h | h
    · exact o.wl k q h
    · have h := List.mem_singleton.mp h
      cases h
  wo := fun k q h => by
    have h : (false, k, q) ∈ m.ws ++ [(false, n, p)] := h
    obtain ⟨ua, ub, uc, ud, ue⟩ := o.us n p hu
    show 1 ≤ k ∧ k ≤ m.t ∧ q ∈ nms ∧ k ≤ m.g q ∧ (k = m.t → m.sh ≠ none → m.sh = some q ∧ (none : Option (Int × α)) = none ∧ ∀ q, m.r q = none)
    rcases List.mem_append.mp h with h | h
    · obtain ⟨a, b, c, d, e⟩ := o.wo k q h
      exact ⟨a, b, c, d, fun h1 h2 => ⟨(e h1 h2).1, rfl, ue⟩⟩
    · have h := List.mem_singleton.mp h
      cases h
      have z := o.t1 (by rw [ub]; exact fun e => nomatch e)
      exact ⟨by omega, by omega, ud, by omega, fun _ _ => ⟨ub, rfl, ue⟩⟩
  op := fun h => by
    obtain ⟨q, a, b, c, d⟩ := o.op h
    exact ⟨q, a, b, rfl, d⟩
  rt := fun q k h => by
    obtain ⟨_, _, _, _, z⟩ := o.us n p hu
    have h : m.r q = some k := h
    rw [z q] at h
    cases h
  us := fun k q h => by cases h
theorem ok_got (o : Ok nms m) (hw : (true, n, p) ∈ m.ws) : Ok nms (gotM m n p) := by
  unfold gotM
  by_cases hg : n > m.g p
  case neg =>
    rw [if_neg hg]
    exact o
  rw [if_pos hg]
  obtain ⟨n1, n2, hp, d⟩ := o.wl n p hw
  obtain ⟨ht, hs⟩ : n = m.t ∧ m.sh = some p := by
    rcases d with d | d
    · omega
    · exact d
  have mono : ∀ q, m.g q ≤ fset m.g p n q := fun q => by
    by_cases e : q = p
    · rw [e, fset_same]
      omega
    · rw [fset_ne e]
      exact Int.le_refl _
  have nou : m.us = none := by
    cases e : m.us with
    | none => rfl
    | some x =>
      obtain ⟨k, q⟩ := x
      obtain ⟨_, b, c, _⟩ := o.us k q e
      rw [hs] at b
      cases b
      omega
  have nor : ∀ q, m.r q = none := fun q => by
    cases e : m.r q with
    | none => rfl
    | some k =>
      obtain ⟨_, b, c, _⟩ := o.rt q k e
      rw [hs] at b
      cases b
      omega
  exact {
    t0 := o.t0
    t1 := o.t1
    shn := o.shn
    wl := fun k q h => by
      obtain ⟨a, b, c, d⟩ := o.wl k q h
      refine ⟨a, b, c, ?_⟩
      rcases d with d | d
      · exact Or.inl (Int.le_trans d (mono q))
      · exact Or.inr d
    wo := fun k q h => by
      obtain ⟨a, b, c, d, e⟩ := o.wo k q h
      refine ⟨a, b, c, Int.le_trans d (mono q), fun h1 h2 => ?_⟩
      have z := (e h1 h2).1
      rw [hs] at z
      cases z
      have h1 : k = m.t := h1
      omega
    op := fun h => by
      obtain ⟨q, a, b, c⟩ := o.op h
      rw [hs] at a
      cases a
      omega
    rt := fun q k h => by
      have h : fset m.r p (some n) q = some k := h
      by_cases e : q = p
      · subst e
        rw [fset_same] at h
        cases h
        refine ⟨ht, hs, ?_, nou, hp⟩
        show m.t ≤ fset m.g q n q
        rw [fset_same]
        omega
      · rw [fset_ne e, nor q] at h
        cases h
    us := fun k q h => by
      have h : m.us = some (k, q) := h
      rw [nou] at h
      cases h }
theorem ok_open (o : Ok nms m) (hw : (false, n, p) ∈ m.ws) : Ok nms (openM m n) := by
  unfold openM
  by_cases hg : due m n = true
  case neg =>
    rw [if_neg hg]
    exact o
  rw [if_pos hg]
  obtain ⟨n1, n2, hp, hl, d⟩ := o.wo n p hw
  unfold due at hg
  simp only [Bool.and_eq_true, decide_eq_true_eq] at hg
  obtain ⟨h1, h2, h3⟩ := hg
  have hs : m.sh ≠ none := fun e => by
    rw [e] at h1
    cases h1
  obtain ⟨da, db, dc⟩ := d h2.symm hs
  exact { t0 := o.t0, t1 := o.t1, shn := o.shn, wl := o.wl, wo := o.wo, rt := o.rt, us := o.us, op := fun _ => ⟨p, da, by show m.t ≤ m.g p; omega, db, dc⟩ }
theorem ok_come (o : Ok nms m) {w : Bool × Int × α} (hw : w ∈ m.ws) : Ok nms (comeM m w) := by
  obtain ⟨b, n, p⟩ := w
  unfold comeM
  cases b with
  | true =>
    rw [if_pos rfl]
    exact ok_got o hw
  | false =>
    rw [if_neg Bool.false_ne_true]
    exact ok_open o hw
/-- an old word changes nothing -/
theorem come_old (o : Ok nms m) {w : Bool × Int × α} (hw : w ∈ m.ws) (ho : w.2.1 < m.t) : comeM m w = m := by
  obtain ⟨b, n, p⟩ := w
  have ho : n < m.t := ho
  unfold comeM
  cases b with
  | true =>
    rw [if_pos rfl]
    obtain ⟨_, _, _, d⟩ := o.wl n p hw
    show gotM m n p = m
    unfold gotM
    rw [if_neg]
    rcases d with d | ⟨d, _⟩ <;> omega
  | false =>
    rw [if_neg Bool.false_ne_true]
    show openM m n = m
    unfold openM due
    rw [if_neg]
    intro h
    simp only [Bool.and_eq_true, decide_eq_true_eq] at h
    omega
end

/-! ### what is safe -/
/-- the rights that are there, place by place, and what is in use -/
def held (nms : List α) (m : M α) : List (Int × α) := nms.filterMap (fun q => (m.r q).map fun n => (n, q)) ++ m.us.toList
theorem rights_none {nms : List α} {m : M α} (h : ∀ q, m.r q = none) : nms.filterMap (fun q => (m.r q).map fun n => (n, q)) = [] := by
  rw [List.filterMap_eq_nil_iff]
  intro q _
  rw [h q]
  rfl
theorem rights_one {m : M α} {p : α} {n : Int} (hr : m.r p = some n) (ho : ∀ q, q ≠ p → m.r q = none) : ∀ {nms : List α}, nms.Nodup → p ∈ nms → nms.filterMap (fun q => (m.r q).map fun n => (n, q)) = [(n, p)]
  | [], _, h => by cases h
  | a :: l, hn, h => by
    obtain ⟨h1, h2⟩ := List.nodup_cons.mp hn
    by_cases e : a = p
    · subst e
      have z : l.filterMap (fun q => (m.r q).map fun n => (n, q)) = [] := by
        rw [List.filterMap_eq_nil_iff]
        intro q hq
        rw [ho q fun e => h1 (e ▸ hq)]
        rfl
      rw [List.filterMap_cons, z, hr]
      rfl
    · have hp : p ∈ l := by
        rcases List.mem_cons.mp h with h | h
        · exact absurd h.symm e
        · exact h
      rw [List.filterMap_cons, ho a e, rights_one hr ho h2 hp]
      rfl
theorem safe {nms : List α} {m : M α} (o : Ok nms m) (hn : nms.Nodup) : held nms m = [] ∨ ∃ p, m.sh = some p ∧ held nms m = [(m.t, p)] := by
  unfold held
  cases hu : m.us with
  | some x =>
    obtain ⟨n, p⟩ := x
    obtain ⟨a, b, c, _, d⟩ := o.us n p hu
    right
    refine ⟨p, b, ?_⟩
    rw [rights_none d, a]
    rfl
  | none =>
    by_cases h : ∃ p n, m.r p = some n
    · obtain ⟨p, n, hr⟩ := h
      obtain ⟨a, b, c, _, hp⟩ := o.rt p n hr
      right
      refine ⟨p, b, ?_⟩
      rw [rights_one hr (o.held hr) hn hp, a]
      rfl
    · left
      have d : ∀ q, m.r q = none := fun q => by
        cases e : m.r q with
        | none => rfl
        | some k => exact absurd ⟨q, k, e⟩ h
      rw [rights_none d]
      rfl
end K23

/-! What the layer lacks here: S.__init__(self, 'text') where S is an own class over ValueError without an __init__ of its own; and one except clause that names three classes. -/
namespace K23x
open PySem PySem.Spec PyProof.Rows L2

section
variable {X : Cx} {e : Expr} {es : List Expr} {ta : TA} {x : Str} {S : Addr} {p p1 p2 pos : Pos}
/-- S.__init__(self, ..): nothing of it is told -/
theorem pe_seinit {pl : Sem Bool} (hg : Gl X x) (hm : X.mg x = some (.ref S)) (cr : ClX.CRead X.K S (.type "type")) (vV : PySem.W.findCls X.K (.ref S) (.type "type") "__init__" = some (.val (.builtin "ValueError.__init__"))) (ha : PA X (e :: es) ta)
    (hdb : (x == ("__debug__" : Str)) = false := by decide)
    (hc : eval (.Call (.Attribute (.Name x p1) "__init__" p2) (e :: es) [] pos) X.env = (do
      let ov ← eval (.Name x p1) X.env
      standAt p2.atName
      let (f, first) ← holding [ov] (getMethod ov "__init__" pl)
      callWith pos f first (backTo pos (starEach (e :: es) X.env)) (backToKw pos (keywordEach [] X.env))) := by rfl)
    (he : starEach (e :: es) X.env = (false, eval e X.env) :: starEach es X.env := by rfl) (hpl : (backTo pos (starEach es X.env)).any (·.1) = false := by rfl) :
    PE X (.Call (.Attribute (.Name x p1) "__init__" p2) (e :: es) [] pos) (tVeI X.K ta) := by
  constructor
  intro pins s σ H Q I hw
  apply PySem.W.methodCall_KW (ld_glob I hg hm (hd := hdb) ?_) hc
  apply PySem.W.method_cls I.kIn cr.ga
  apply PySem.W.cls_value I.kIn cr.rd vV (by decide +kernel)
  show wpAny _ _ (callWith pos (Value.builtin "ValueError.__init__") [] _ []) _ _ _
  apply PyProof.Rows.callWith_method1 _ he hpl
  apply thn (ha.run pos pins _ σ H _ (I.tok _) hw)
  rintro us s1 ⟨_, H1, J, r, a, C, ws, rfl, n, ox, ea, q⟩
  rcases r with _ | ⟨r0, r1⟩
  cases r0
  exact oinit_ok ox J ea (by rw [← Paired.length r1, sizeLine_eq]; omega) fun _ J' => ⟨.non, H1, J', rfl, q⟩
end

/-! An exception in flight: a growing heap leaves it in flight; its record is no caller's frame; how a flow is told where the context changes. -/
theorem flying_keeps {base h h' : Heap} {l : List Env} {a : Addr} {Z : Obj → Prop} (f : HandSPX.FlyingZ base l a Z h) (k : ∀ b o, h.get? b = some o → h'.get? b = some o) : HandSPX.FlyingZ base l a Z h' := by
  obtain ⟨f1, f2, f3, oe, vs, T, oT, ts, g1, g2, g3, g4, g5, g6, g7, g8, g9⟩ := f
  exact ⟨fun b o q => k b o (f1 b o q), f2, f3.of_keeps (fun b o q _ => ⟨o, k b o q, rfl⟩), oe, vs, T, oT, ts, k a oe g1, g2, g3, g4, g5, g6, k T oT g7, g8, g9⟩
theorem not_frame {B h : Heap} {l : List Env} {a : Addr} {o : Obj} {vs : Array Value} (ff : h.FunFrames B l) (e : h.get? a = some o) (d : o.data = .fields vs) : a ∉ frs l := by
  intro m
  obtain ⟨_, u, q, n⟩ := ff.mem m
  exact n vs (by rw [e] at q; exact Option.some.inj q ▸ d)
theorem sp_move {X Y : Cx} {D : Ends} {p p' : List (Addr × Obj)} (h : ∀ {σ H s}, Inv Y p' σ H s → Inv X p σ H s) : ∀ {f : Flow} {s : Shared}, SP Y p' D f s → SP X p D f s
  | .next, _, ⟨σ, H, J, k⟩ => ⟨σ, H, h J, k⟩
  | .brk, _, ⟨σ, H, J, k⟩ => ⟨σ, H, h J, k⟩
  | .cont, _, ⟨σ, H, J, k⟩ => ⟨σ, H, h J, k⟩
  | .ret _, _, ⟨v, σ, H, J, r, k⟩ => ⟨v, σ, H, h J, r, k⟩
/-- what the clause 'except (x1, x2, x3)' wishes of an exception of the body, which is one of these -/
def wT3 (K : PySem.W.Frag) (c1 c2 c3 : Value) (ts : Addr → Value → Option Addr → TS) (D : Ends) : WX := fun cls d σ H =>
  PySem.W.exmAny K cls [c1, c2, c3] = some true ∧ ∀ a, H a = none → ts a cls d D σ H
section
variable {X : Cx} {x1 x2 x3 : Str} {c1 c2 c3 : Value} {suite : List Stmt} {b0 : Stmt} {q1 q2 q3 tpos pos' : Pos} {kk} {ts : Addr → Value → Option Addr → TS}
/-- the clause's own work, from an exception that has landed at h3 -/
theorem clause_three {pins : List (Addr × Obj)} {σ : L2.St} {H : Hp} {D : Ends} {B h3 : Heap} {sI s : Shared} {a : Addr} {cls : Value} {d : Option Addr} (hf : X.env.frame = some X.env.locals)
    (g1 : Gl X x1) (m1 : X.mg x1 = some c1) (e1 : (x1 == ("__debug__" : Str)) = false) (g2 : Gl X x2) (m2 : X.mg x2 = some c2) (e2 : (x2 == ("__debug__" : Str)) = false) (g3 : Gl X x3) (m3 : X.mg x3 = some c3) (e3 : (x3 == ("__debug__" : Str)) = false)
    (hsu : ∀ (a : Addr) (oe : Obj) (cls : Value) (d : Option Addr) (pn : List (Addr × Obj)), Zc cls d oe → (∃ vs, oe.data = .fields vs) → PSs (X.suite a ((a, oe) :: pn)) (b0 :: suite) (ts a cls d))
    (hst : starEach [.Name x1 q1, .Name x2 q2, .Name x3 q3] X.env = [(false, eval (.Name x1 q1) X.env), (false, eval (.Name x2 q2) X.env), (false, eval (.Name x3 q3) X.env)])
    (J : Inv X pins σ H sI) (nb : ∀ b o, sI.heap.get? b = some o → b ∉ frs X.stack → B.get? b = some o) (up : sI.heap.UpToSlots h3) (os : s.os = sI.os) (ag : AllBare s.gens) (na : H a = none) (fl : HandSPX.FlyingZ B (X.env :: X.outer) a (Zc cls d) h3)
    (w : wT3 X.K c1 c2 c3 ts D cls d σ H) :
    wpAny (model X.prog X.w) X.A (handleBy (.ref a) X.env [.ExceptHandler (some (.Tuple [.Name x1 q1, .Name x2 q2, .Name x3 q3] kk tpos)) none (b0 :: suite) pos']) (SP X pins D) X.xe { s with heap := h3 } := by
  -- whatever the heap has become: the record is apart from the frames, and a suite may begin
  have begins : ∀ {h : Heap}, HandSPX.FlyingZ B (X.env :: X.outer) a (Zc cls d) h → sI.heap.UpToSlots h →
      ∃ oe vs, h.get? a = some oe ∧ Zc cls d oe ∧ oe.data = .fields vs ∧ Inv (X.suite a ((a, oe) :: (X.pn ++ pins))) [] σ H { s with heap := h } := by
    intro h f u
    obtain ⟨oe, vs, t1, t2, t3⟩ := f.there
    have away := not_frame f.2.2.1 t1 t3
    refine ⟨oe, vs, t1, t2, t3, (J.landed (s' := { s with heap := h }) nb f.1 u os ag).suite t1 t3 na (fun z => away ?_) (fun m => away ?_)⟩
    · exact List.mem_filterMap.mpr ⟨X.env, List.mem_cons_self, z ▸ hf⟩
    · obtain ⟨en, i1, i2⟩ := List.mem_filterMap.mp m
      exact List.mem_filterMap.mpr ⟨en, List.mem_cons_of_mem _ i1, i2⟩
  obtain ⟨oe, vs, t1, t2, t3, S⟩ := begins fl up
  obtain ⟨hb, hy⟩ := w
  -- the three names, a new tuple of their classes
  apply wpAny_handleBy_cons (h := codeAny_handlers_test (wpAny_Tuple_spliced ?_)) (by intro z; cases z)
  rw [hst]
  apply Calls.spliced_cons
  apply ld_glob (X := X.suite a ((a, oe) :: (X.pn ++ pins))) S g1 m1 (hd := e1)
  apply Calls.spliced_cons
  apply ld_glob (X := X.suite a ((a, oe) :: (X.pn ++ pins))) S g2 m2 (hd := e2)
  apply Calls.spliced_cons
  apply ld_glob (X := X.suite a ((a, oe) :: (X.pn ++ pins))) S g3 m3 (hd := e3)
  refine Calls.spliced_nil ⟨by show 3 ≤ sizeLine; decide, ?_⟩
  have kp : ∀ b o, h3.get? b = some o → (h3.push { cls := .type "tuple", data := .seq [c1, c2, c3].toArray }).get? b = some o := fun b o q => Heap.get?_push_of_some _ q
  have tp : (h3.push { cls := .type "tuple", data := .seq [c1, c2, c3].toArray }).get? h3.objs.size = some { cls := .type "tuple", data := .seq [c1, c2, c3].toArray } := Heap.get?_push_size _ rfl
  show wpAny _ _ (excMatches (.ref a) (.ref h3.objs.size)) _ _ { s with heap := h3.push { cls := .type "tuple", data := .seq [c1, c2, c3].toArray } }
  generalize h3.push { cls := .type "tuple", data := .seq [c1, c2, c3].toArray } = h4 at kp tp ⊢
  have up4 : sI.heap.UpToSlots h4 := up.trans fun b o q _ => ⟨o.slots, kp b o q⟩
  have fl4 := flying_keeps fl kp
  -- it is one of them: the suite
  refine (PySem.W.exm_tup3 (M := model X.prog X.w) (J.landed (s' := { s with heap := h4 }) nb fl4.1 up4 os ag).kIn (fun _ _ _ _ k q => wpAny_typeOf_ref (k a oe (kp a oe t1)) (t2.1.symm ▸ q)) tp hb).here (codeAny_handlers_suite ?_)
  apply HandSPX.lands_againZ fl4
  intro h5 fl5 up5
  obtain ⟨oe5, vs5, _, z5, d5, S5⟩ := begins fl5 (up4.trans up5)
  exact wpAny_mono ((hsu a oe5 cls d (X.pn ++ pins) z5 ⟨vs5, d5⟩).run [] _ σ H D S5 (hy a na)) (fun _ _ q => sp_move (fun I => I.unsuite J.ok) q) fun _ _ z => z.elim
/-- try: body; except (x1, x2, x3): suite -/
theorem ps_try_three {body : List Stmt} {pos : Pos} {tb : WX → TS} (hs : X.stack = X.env :: X.outer) (hf : X.env.frame = some X.env.locals)
    (g1 : Gl X x1) (m1 : X.mg x1 = some c1) (g2 : Gl X x2) (m2 : X.mg x2 = some c2) (g3 : Gl X x3) (m3 : X.mg x3 = some c3)
    (hb : ∀ (W : WX) (pn : List (Addr × Obj)) (xe : Value → Shared → Prop), Takes (X.tr pn xe) W → PassesOwn (model X.prog X.w) X.A X.env xe → PSs (X.tr pn xe) body (tb W))
    (hsu : ∀ (a : Addr) (oe : Obj) (cls : Value) (d : Option Addr) (pn : List (Addr × Obj)), Zc cls d oe → (∃ vs, oe.data = .fields vs) → PSs (X.suite a ((a, oe) :: pn)) (b0 :: suite) (ts a cls d))
    (e1 : (x1 == ("__debug__" : Str)) = false := by decide) (e2 : (x2 == ("__debug__" : Str)) = false := by decide) (e3 : (x3 == ("__debug__" : Str)) = false := by decide)
    (hst : starEach [.Name x1 q1, .Name x2 q2, .Name x3 q3] X.env = [(false, eval (.Name x1 q1) X.env), (false, eval (.Name x2 q2) X.env), (false, eval (.Name x3 q3) X.env)] := by rfl) :
    PS X (.Try body [.ExceptHandler (some (.Tuple [.Name x1 q1, .Name x2 q2, .Name x3 q3] kk tpos)) none (b0 :: suite) pos'] [] [] pos) (fun D σ H => tb (wT3 X.K c1 c2 c3 ts D) D σ H) := by
  constructor
  intro pins s σ H D I hw
  have fr : X.A.frames = some (X.env :: X.outer) := hs ▸ I.ok.frames
  apply wpAny_Try_except
  refine wpAny_mono ((hb (wT3 X.K c1 c2 c3 ts D) (X.pn ++ pins) _ ?_ PassesOwn.looking).run [] s σ H D (I.toTry _) hw) (fun f s1 q => ?_) (fun _ _ z => z)
  · -- an exception of the body lands
    rintro u s1 ⟨a, B, sI, p2, σ2, H2, cls, d, rfl, J, nb, up, sky, na, os, ag, w⟩
    have sky : Sky B (X.env :: X.outer) a (Zc cls d) X.env.locals s1.heap := hs ▸ sky
    exact Sky.land Zc.steady fr hf sky fun h3 fl3 up3 => clause_three hf g1 m1 e1 g2 m2 e2 g3 m3 e3 hsu hst (J.ofTry I.ok) nb (up.trans up3) os ag na fl3 w
  · -- none came
    have q := sp_move (fun K => K.ofTry I.ok) q
    cases f with
    | next => exact wpAny_execs_nil q
    | brk => exact q
    | cont => exact q
    | ret u => exact q
end
end K23x

/-! The text by places; the data: what stands in the heap; the promises' words. -/
namespace K23
open PySem PySem.Spec PyProof.Rows L2
/-! ### 1. the text by places -/
def top (i : Nat) : Stmt := PySem.Challenge.pw_onestaff_k23_whole_one_right.main.body.getD i (.Pass ⟨0, 0, 0, 0⟩)
abbrev sShutI : Stmt := inClass (top 4) 0
abbrev sNoRI : Stmt := inClass (top 5) 0
abbrev sNotSI : Stmt := inClass (top 6) 0
abbrev sWhole : Stmt := top 8
abbrev sKI : Stmt := inClass (top 11) 0
abbrev sLock : Stmt := inClass (top 11) 1
abbrev sLocked : Stmt := inClass (top 11) 2
abbrev sThis : Stmt := inClass (top 11) 3
abbrev sOpens : Stmt := inClass (top 11) 4
abbrev sIsOpen : Stmt := inClass (top 11) 5
abbrev sLetGo : Stmt := inClass (top 11) 6
abbrev sUnlock : Stmt := inClass (top 11) 7
abbrev sEnded : Stmt := inClass (top 11) 8
abbrev sTimes : Stmt := inClass (top 11) 9
abbrev sHI : Stmt := inClass (top 12) 0
abbrev sGot : Stmt := inClass (top 12) 1
abbrev sRight : Stmt := inClass (top 12) 2
abbrev sUse : Stmt := inClass (top 12) 3
abbrev sGive : Stmt := inClass (top 12) 4
abbrev sNote : Stmt := inClass (top 12) 5
abbrev sSeen : Stmt := inClass (top 12) 7
abbrev sCell : Stmt := top 14
abbrev sBox : Stmt := top 15
abbrev sTake : Stmt := top 16
abbrev sNames : Stmt := top 17
abbrev sTried : Stmt := top 18
abbrev sCome : Stmt := top 19
abbrev sDone : Stmt := top 20
abbrev sSafe : Stmt := top 21
abbrev sLaw : Stmt := top 22

/-! ### 2. the data -/
theorem put_hit {f : Str} {y v : V} {r : List (Str × V)} : putF f y ((f, v) :: r) = (f, y) :: r := by
  show (if f = f then (f, y) :: r else (f, v) :: putF f y r) = _
  rw [if_pos rfl]
theorem put_miss {f g : Str} {y v : V} {r : List (Str × V)} (h : ¬ g = f) : putF f y ((g, v) :: r) = (g, v) :: putF f y r := by
  show (if g = f then (g, y) :: r else (g, v) :: putF f y r) = _
  rw [if_neg h]
theorem look_hit {f : Str} {v : V} {r : List (Str × V)} : List.lookup f ((f, v) :: r) = some v := by
  rw [lookup_put, if_pos rfl]
theorem look_miss {f g : Str} {v : V} {r : List (Str × V)} (h : ¬ g = f) : List.lookup g ((f, v) :: r) = List.lookup g r := by
  rw [lookup_put, if_neg h]
/-- a Keeper's attributes -/
def kf (t : Int) (s : V) (o : Bool) : List (Str × V) := [("kept_times", .int t), ("kept_shut", s), ("kept_open", .bl o)]
/-- a Holder's attributes -/
def hf (g : Int) (r n : V) : List (Str × V) := [("kept_greatest", .int g), ("kept_right", r), ("kept_note", n)]
section
variable {t g : Int} {s r n y : V} {o b : Bool}
theorem kf_times : (kf t s o).lookup ("kept_times" : Str) = some (.int t) := look_hit
theorem kf_shut : (kf t s o).lookup ("kept_shut" : Str) = some s := (look_miss (by decide +kernel)).trans look_hit
theorem kf_open : (kf t s o).lookup ("kept_open" : Str) = some (.bl o) := (look_miss (by decide +kernel)).trans ((look_miss (by decide +kernel)).trans look_hit)
theorem kf_no {m : Str} (h1 : ¬ m = "kept_times") (h2 : ¬ m = "kept_shut") (h3 : ¬ m = "kept_open") : (kf t s o).lookup m = none := (look_miss h1).trans ((look_miss h2).trans (look_miss h3))
theorem kf_ptimes {u : Int} : putF "kept_times" (.int u) (kf t s o) = kf u s o := put_hit
theorem kf_pshut : putF "kept_shut" y (kf t s o) = kf t y o := (put_miss (by decide +kernel)).trans (congrArg _ put_hit)
theorem kf_popen : putF "kept_open" (.bl b) (kf t s o) = kf t s b := (put_miss (by decide +kernel)).trans (congrArg _ ((put_miss (by decide +kernel)).trans (congrArg _ put_hit)))
theorem kf_init : putF "kept_open" (.bl o) (putF "kept_shut" s (putF "kept_times" (.int t) [])) = kf t s o := by
  show putF "kept_open" (.bl o) (putF "kept_shut" s [("kept_times", V.int t)]) = _
  rw [put_miss (by decide +kernel)]
  show putF "kept_open" (.bl o) [("kept_times", V.int t), ("kept_shut", s)] = _
  rw [put_miss (by decide +kernel), put_miss (by decide +kernel)]
  rfl
theorem hf_great : (hf g r n).lookup ("kept_greatest" : Str) = some (.int g) := look_hit
theorem hf_right : (hf g r n).lookup ("kept_right" : Str) = some r := (look_miss (by decide +kernel)).trans look_hit
theorem hf_no {m : Str} (h1 : ¬ m = "kept_greatest") (h2 : ¬ m = "kept_right") (h3 : ¬ m = "kept_note") : (hf g r n).lookup m = none := (look_miss h1).trans ((look_miss h2).trans (look_miss h3))
theorem hf_pgreat {u : Int} : putF "kept_greatest" (.int u) (hf g r n) = hf u r n := put_hit
theorem hf_pright : putF "kept_right" y (hf g r n) = hf g y n := (put_miss (by decide +kernel)).trans (congrArg _ put_hit)
theorem hf_pnote : putF "kept_note" y (hf g r n) = hf g r y := (put_miss (by decide +kernel)).trans (congrArg _ ((put_miss (by decide +kernel)).trans (congrArg _ put_hit)))
theorem hf_init : putF "kept_note" n (putF "kept_right" r (putF "kept_greatest" (.int g) [])) = hf g r n := by
  show putF "kept_note" n (putF "kept_right" r [("kept_greatest", V.int g)]) = _
  rw [put_miss (by decide +kernel)]
  show putF "kept_note" n [("kept_greatest", V.int g), ("kept_right", r)] = _
  rw [put_miss (by decide +kernel), put_miss (by decide +kernel)]
  rfl
end
/-- what was tracked is as it was, but at these places -/
def Fr (H H' : Hp) (l : List Addr) : Prop := ∀ b o, H b = some o → b ∉ l → H' b = some o
theorem Fr.one {H : Hp} {a : Addr} {o : HO} : Fr H (upd H a o) [a] := fun b u e hb => by
  rw [upd_ne (fun z => hb (by rw [z]; exact List.mem_cons_self))]
  exact e
theorem Fr.same {H H' : Hp} (h : Same H H') {l : List Addr} : Fr H H' l := fun b o e _ => h b o e
theorem Fr.nil {H H' : Hp} (h : Fr H H' []) : Same H H' := fun b o e => h b o e (by simp)
theorem Fr.trans {H H1 H2 : Hp} {l : List Addr} (a : Fr H H1 l) (b : Fr H1 H2 l) : Fr H H2 l := fun c o h hn => b c o (a c o h hn) hn
theorem Fr.mono {H H' : Hp} {l l' : List Addr} (a : Fr H H' l) (h : ∀ x ∈ l, x ∈ l') : Fr H H' l' := fun c o e hn => a c o e fun z => hn (h c z)
/-- a change where nothing was tracked -/
theorem Fr.upd_new {H H' : Hp} {l : List Addr} {a : Addr} {o : HO} (f : Fr H H' l) (hn : H a = none) : Fr H (upd H' a o) l := fun c u e hc => by
  rw [upd_ne (ne_of_none e hn)]
  exact f c u e hc
theorem Fr.upd_in {H H' : Hp} {l : List Addr} {a : Addr} {o : HO} (f : Fr H H' l) (hn : a ∈ l) : Fr H (upd H' a o) l := fun c u e hc => by
  rw [upd_ne (fun z => hc (by rw [z]; exact hn))]
  exact f c u e hc
theorem Fr.free {H H' : Hp} {l : List Addr} {a : Addr} (f : Fr H H' l) (ha : a ∉ l) (h : H' a = none) : H a = none := by
  cases q : H a with
  | none => rfl
  | some o =>
    rw [f a o q ha] at h
    cases h
/-- none at v, or there a tuple of the number and the place -/
def Opt (H : Hp) (v : V) : Option (Int × Str) → Prop
  | none => v = .non
  | some (n, p) => ∃ a, v = .ref a ∧ H a = some (.tup [.int n, .str p])
theorem Opt.fr {H H' : Hp} {l : List Addr} {v : V} {o : Option (Int × Str)} (h : Opt H v o) (f : Fr H H' l) (hl : ∀ a ∈ l, ∀ xs, H a ≠ some (.tup xs)) : Opt H' v o := by
  cases o with
  | none => exact h
  | some x =>
    obtain ⟨a, e, q⟩ := h
    exact ⟨a, e, f a _ q fun z => hl a z _ q⟩
theorem Opt.same {H H' : Hp} {v : V} {o : Option (Int × Str)} (h : Opt H v o) (f : Same H H') : Opt H' v o := h.fr (l := []) (Fr.same f) (fun _ z => absurd z (by simp))
/-- a Keeper stands at k -/
def KeepAt (C : Addr) (H : Hp) (k : Addr) (t : Int) (sh : Option Str) (op : Bool) : Prop := ∃ dx v, H k = some (.ins C dx (kf t v op)) ∧ Opt H v (sh.map fun p => (t, p))
/-- a Holder stands at h: the greatest number that it got is g, the number of its right r -/
def HoldAt (D : Addr) (H : Hp) (h : Addr) (g : Int) (r : Option Int) : Prop := ∃ dx v n, H h = some (.ins D dx (hf g v n)) ∧ Opt H v (r.map fun n => (n, ("home" : Str)))
theorem KeepAt.same {C k : Addr} {H H' : Hp} {t : Int} {sh : Option Str} {op : Bool} (x : KeepAt C H k t sh op) (f : Same H H') : KeepAt C H' k t sh op := by
  obtain ⟨dx, v, e, o⟩ := x
  exact ⟨dx, v, f _ _ e, o.same f⟩
theorem HoldAt.same {D h : Addr} {H H' : Hp} {g : Int} {r : Option Int} (x : HoldAt D H h g r) (f : Same H H') : HoldAt D H' h g r := by
  obtain ⟨dx, v, n, e, o⟩ := x
  exact ⟨dx, v, n, f _ _ e, o.same f⟩

/-! ### 3. what the walk asks of the text as the top has made it -/
structure Adr where
  (C D S eSh eNR eNS iSh iNR iNS fW : Addr)
  (kI kLock kLocked kThis kOpens kIsOpen kGo kUnlock kEnded kTimes : Addr)
  (hI hGot hRight hUse hGive hNote hSeen : Addr)
  (lCell lBox lTake lNames lTried lCome lDone lSafe lLaw : Addr)
/-- an own exception class whose __init__ has one argument, found -/
structure Own (K : PySem.W.Frag) (mg : Str → Option Value) (x : Str) (C fI : Addr) : Prop where
  ox : OexC K C
  iC : PySem.W.findIn K (.ref C) "__init__" = some (some (.ref fI))
  tI : PySem.W.typeIn K (.ref fI) = some (.type "function")
  gC : mg x = some (.ref C)
  nF : PySem.W.findIn K (.ref C) "found" = some none
structure Txt (K : PySem.W.Frag) (mg : Str → Option Value) (z : Adr) : Prop where
  clC : Cls K z.C
  cT : NoAttr K z.C "kept_times"
  cS : NoAttr K z.C "kept_shut"
  cO : NoAttr K z.C "kept_open"
  clD : Cls K z.D
  dG : NoAttr K z.D "kept_greatest"
  dR : NoAttr K z.D "kept_right"
  dN : NoAttr K z.D "kept_note"
  mgC : mg "Keeper" = some (.ref z.C)
  mgD : mg "Holder" = some (.ref z.D)
  mkC : Mk K z.C z.kI
  mkD : Mk K z.D z.hI
  mgS : mg "StaffError" = some (.ref z.S)
  rdS : ClX.CRead K z.S (.type "type")
  inS : PySem.W.findCls K (.ref z.S) (.type "type") "__init__" = some (.val (.builtin "ValueError.__init__"))
  oSh : Own K mg "Shut" z.eSh z.iSh
  oNR : Own K mg "NoRight" z.eNR z.iNR
  oNS : Own K mg "NotShut" z.eNS z.iNS
  xSh : PySem.W.exmAny K (.ref z.eSh) [.ref z.eSh, .ref z.eNS, .ref z.eNR] = some true
  xNR : PySem.W.exmAny K (.ref z.eNR) [.ref z.eSh, .ref z.eNS, .ref z.eNR] = some true
  xNS : PySem.W.exmAny K (.ref z.eNS) [.ref z.eSh, .ref z.eNS, .ref z.eNR] = some true
  mLock : Meth K z.C "lock" z.kLock
  mLocked : Meth K z.C "locked" z.kLocked
  mThis : Meth K z.C "is_this" z.kThis
  mOpens : Meth K z.C "opens" z.kOpens
  mIsOpen : Meth K z.C "is_open" z.kIsOpen
  mGo : Meth K z.C "let_go" z.kGo
  mUnlock : Meth K z.C "unlock" z.kUnlock
  mEnded : Meth K z.C "ended" z.kEnded
  mTimes : Meth K z.C "times" z.kTimes
  mGot : Meth K z.D "got" z.hGot
  mRight : Meth K z.D "right" z.hRight
  mUse : Meth K z.D "use" z.hUse
  mGive : Meth K z.D "give" z.hGive
  mNote : Meth K z.D "note" z.hNote
  mSeen : Meth K z.D "seen" z.hSeen
  mgW : mg "is_whole" = some (.ref z.fW)
  mgG : ∃ t, mg "GREATEST" = some (.int (10 ^ 30) t)
  mgCell : mg "_law_cell" = some (.ref z.lCell)
  mgBox : mg "_law_box" = some (.ref z.lBox)
  mgTake : mg "_law_take" = some (.ref z.lTake)
  mgNames : mg "_law_names" = some (.ref z.lNames)
  mgTried : mg "_law_tried" = some (.ref z.lTried)
  mgCome : mg "_law_come" = some (.ref z.lCome)
  mgDone : mg "_law_done" = some (.ref z.lDone)
  mgSafe : mg "_law_safe" = some (.ref z.lSafe)
  kW : PySem.W.keepIn K (.ref z.fW) = true
  kCell : PySem.W.keepIn K (.ref z.lCell) = true
  kBox : PySem.W.keepIn K (.ref z.lBox) = true
  kTake : PySem.W.keepIn K (.ref z.lTake) = true
  kNames : PySem.W.keepIn K (.ref z.lNames) = true
  kTried : PySem.W.keepIn K (.ref z.lTried) = true
  kCome : PySem.W.keepIn K (.ref z.lCome) = true
  kDone : PySem.W.keepIn K (.ref z.lDone) = true
  kSafe : PySem.W.keepIn K (.ref z.lSafe) = true
  bLen : mg "len" = none
  bMax : mg "max" = none
  bMin : mg "min" = none
  bRange : mg "range" = none
  bIsi : mg "isinstance" = none
  bInt : mg "int" = none
  bBool : mg "bool" = none
  bEnum : mg "enumerate" = none
/-- a def of the text, and how its arguments are bound -/
def FunB (K : PySem.W.Frag) (x qual : Str) (st : Stmt) (f : Addr) (ps : List Str) : Prop := ∃ fd, Fun K x qual st f fd ∧ Binds K fd ps []
/-- a def's promise -/
def Prm (P : Program) (w : World) (K : PySem.W.Frag) (mg : Str → Option Value) (base : Heap) (CX : CXT) (k : Nat) (f : Addr) (ps : List Str) (sp : Sp) : Prop := ∃ fd, FnOk P w K mg base CX k f fd ps sp ∧ Binds K fd ps []
end K23

/-! ### is_whole, the refusals' making -/
namespace K23
open PySem PySem.Spec PyProof.Rows L2 K23x
section
variable {P : Program} {w : World} {K : PySem.W.Frag} {mg : Str → Option Value} {base : Heap} {z : Adr}
def spWhole : Sp := fun vs H Q _ => ∃ (n lo hi : Int), vs = [.int n, .int lo, .int hi] ∧ Q (.bl (decide (lo ≤ n) && decide (n ≤ hi))) H
theorem scWhole : FnScope ["thing", "low", "high"] ["thing", "low", "high"] (defScope sWhole) := ⟨rfl, rfl, rfl, by decide +kernel, rfl, by decide +kernel, by decide +kernel⟩
theorem pr_whole {f : Addr} (F : FunB K "is_whole" "is_whole" sWhole f ["thing", "low", "high"]) (T : Txt K mg z) : Prm P w K mg base CX0 1 f ["thing", "low", "high"] spWhole := by
  obtain ⟨fd, F, b⟩ := F
  refine ⟨fd, F.ok scWhole (fun vs H Q E h => ?_) (fun cdv A outer s H vs Q E hr h => ?_), b⟩
  · obtain ⟨n, lo, hi, rfl, _⟩ := h
    rfl
  · obtain ⟨n, lo, hi, rfl, k⟩ := h
    refine ⟨_, pss_one (ps_ret (pe_and (pe_callB call_isi (by rfl) T.bIsi (by decide +kernel) (pa_cons (pv 0) (pa_cons (pe_bltn (v := .ty "int") (by rfl) T.bInt PyProof.Rows.Boot.«int» rfl) pa_nil)))
      (pe_and (pe_not (pe_callB call_isi (by rfl) T.bIsi (by decide +kernel) (pa_cons (pv 0) (pa_cons (pe_bltn (v := .ty "bool") (by rfl) T.bBool PyProof.Rows.Boot.«bool» rfl) pa_nil))))
      (pe_one (pe_chain op_le op_le (pv 1) (pv 0) (pv 2)))))), ?_⟩
    refine ⟨_, rfl, .int n, .ty "int", _, _, true, rfl, .ty _, .base (.int n), kit_ty (by decide +kernel), true, rfl, iteT ?_⟩
    refine ⟨_, rfl, .int n, .ty "bool", _, _, false, rfl, .ty _, .base (.int n), kit_ty (by decide +kernel), false, rfl, true, rfl, iteT ?_⟩
    refine ⟨_, rfl, _, rfl, lo, n, rfl, rfl, decide (lo ≤ n), rfl, ?_⟩
    by_cases h : lo ≤ n
    · rw [decide_eq_true h]
      refine iteT ⟨_, rfl, n, hi, rfl, rfl, ?_⟩
      rw [decide_eq_true h] at k
      exact k
    · rw [decide_eq_false h]
      refine iteF ?_
      rw [decide_eq_false h] at k
      exact k
/-- the making of a refusal: found is kept -/
def spXI (C : Addr) : Sp := fun vs H Q _ => ∃ (a : Addr) (v : V), vs = [.ref a, v] ∧ H a = some (exo a C none) ∧ ∀ d, H d = none → d ≠ a → Q .non (upd (upd H d (exd d [(("found" : Str), v)])) a (exo a C (some d)))
theorem sc_shutI : FnScope ["self", "found"] ["self", "found"] (defScope sShutI) := ⟨rfl, rfl, rfl, by decide +kernel, rfl, by decide +kernel, by decide +kernel⟩
theorem pr_shutI {f C : Addr} {x : Str} (F : FunB K "__init__" "Shut.__init__" sShutI f ["self", "found"]) (T : Txt K mg z) (O : Own K mg x C f) : Prm P w K mg base CX0 1 f ["self", "found"] (spXI C) := by
  obtain ⟨fd, F, b⟩ := F
  refine ⟨fd, F.ok sc_shutI (fun vs H Q E h => ?_) (fun cdv A outer s H vs Q E hr h => ?_), b⟩
  · obtain ⟨a, v, rfl, _⟩ := h
    rfl
  · obtain ⟨a, v, rfl, ha, k⟩ := h
    refine ⟨_, pss_cons (ps_expr (pe_seinit (by rfl) T.mgS T.rdS T.inS (pa_cons (pv 0) (pa_cons pe_str pa_nil)))) (pss_one (ps_ost (pv 0) (pv 1))), ?_⟩
    refine ⟨_, rfl, a, C, _, rfl, (by show 1 ≤ 1000; decide), O.ox, ha, ?_⟩
    exact ⟨_, rfl, _, rfl, a, C, rfl, O.ox, O.nF, .inl ⟨ha, k⟩⟩
theorem sc_noRI : FnScope ["self", "found"] ["self", "found"] (defScope sNoRI) := ⟨rfl, rfl, rfl, by decide +kernel, rfl, by decide +kernel, by decide +kernel⟩
theorem pr_noRI {f C : Addr} {x : Str} (F : FunB K "__init__" "NoRight.__init__" sNoRI f ["self", "found"]) (T : Txt K mg z) (O : Own K mg x C f) : Prm P w K mg base CX0 1 f ["self", "found"] (spXI C) := by
  obtain ⟨fd, F, b⟩ := F
  refine ⟨fd, F.ok sc_noRI (fun vs H Q E h => ?_) (fun cdv A outer s H vs Q E hr h => ?_), b⟩
  · obtain ⟨a, v, rfl, _⟩ := h
    rfl
  · obtain ⟨a, v, rfl, ha, k⟩ := h
    refine ⟨_, pss_cons (ps_expr (pe_seinit (by rfl) T.mgS T.rdS T.inS (pa_cons (pv 0) (pa_cons pe_str pa_nil)))) (pss_one (ps_ost (pv 0) (pv 1))), ?_⟩
    refine ⟨_, rfl, a, C, _, rfl, (by show 1 ≤ 1000; decide), O.ox, ha, ?_⟩
    exact ⟨_, rfl, _, rfl, a, C, rfl, O.ox, O.nF, .inl ⟨ha, k⟩⟩
theorem sc_notSI : FnScope ["self", "found"] ["self", "found"] (defScope sNotSI) := ⟨rfl, rfl, rfl, by decide +kernel, rfl, by decide +kernel, by decide +kernel⟩
theorem pr_notSI {f C : Addr} {x : Str} (F : FunB K "__init__" "NotShut.__init__" sNotSI f ["self", "found"]) (T : Txt K mg z) (O : Own K mg x C f) : Prm P w K mg base CX0 1 f ["self", "found"] (spXI C) := by
  obtain ⟨fd, F, b⟩ := F
  refine ⟨fd, F.ok sc_notSI (fun vs H Q E h => ?_) (fun cdv A outer s H vs Q E hr h => ?_), b⟩
  · obtain ⟨a, v, rfl, _⟩ := h
    rfl
  · obtain ⟨a, v, rfl, ha, k⟩ := h
    refine ⟨_, pss_cons (ps_expr (pe_seinit (by rfl) T.mgS T.rdS T.inS (pa_cons (pv 0) (pa_cons pe_str pa_nil)))) (pss_one (ps_ost (pv 0) (pv 1))), ?_⟩
    refine ⟨_, rfl, a, C, _, rfl, (by show 1 ≤ 1000; decide), O.ox, ha, ?_⟩
    exact ⟨_, rfl, _, rfl, a, C, rfl, O.ox, O.nF, .inl ⟨ha, k⟩⟩

/-- the end of a raise: what was tracked is as it was -/
theorem raise_same {C a d : Addr} {H H2 : Hp} {v : V} (ha : H a = none) (hd : upd H a (exo a C none) d = none) (hda : d ≠ a) (e : H2 = upd (upd (upd H a (exo a C none)) d (exd d [(("found" : Str), v)])) a (exo a C (some d))) :
    Same H (upd (del H2 a) d (.xd [(("found" : Str), v)])) := fun b o h => by
  have h1 : b ≠ a := ne_of_none h ha
  rw [upd_ne hda] at hd
  have h2 : b ≠ d := ne_of_none h hd
  rw [upd_ne h2, del_ne h1, e, upd_ne h1, upd_ne h2, upd_ne h1]
  exact h
end
end K23

/-! ### Keeper -/
namespace K23
open PySem PySem.Spec PyProof.Rows L2 K23x
theorem nn_ref {a : Addr} : (!decide (V.ref a = V.non)) = true := rfl
theorem nn_non : (!decide (V.non = V.non)) = false := rfl
theorem is_ref {a : Addr} : decide (V.ref a = V.non) = false := rfl
theorem is_non : decide (V.non = V.non) = true := rfl
theorem ini {a b : Int} : decide (V.int a = V.int b) = decide (b = a) := by
  by_cases h : b = a
  · rw [h, decide_eq_true rfl, decide_eq_true rfl]
  · rw [decide_eq_false h, decide_eq_false (fun e => h (V.int.inj e).symm)]
section
variable {P : Program} {w : World} {K : PySem.W.Frag} {mg : Str → Option Value} {base : Heap} {z : Adr}
def spKI (C : Addr) : Sp := fun vs H Q _ => ∃ (p dx : Addr), vs = [.ref p] ∧ H p = some (.ins C dx []) ∧ ∀ H', KeepAt C H' p 0 none false → Fr H H' [p] → Q .non H'
theorem scKI : FnScope ["self"] ["self"] (defScope sKI) := ⟨rfl, rfl, rfl, by decide +kernel, rfl, by decide +kernel, by decide +kernel⟩
theorem pr_ki {f : Addr} (F : FunB K "__init__" "Keeper.__init__" sKI f ["self"]) (T : Txt K mg z) : Prm P w K mg base CX0 1 f ["self"] (spKI z.C) := by
  obtain ⟨fd, F, b⟩ := F
  refine ⟨fd, F.ok scKI (fun vs H Q E h => ?_) (fun cdv A outer s H vs Q E hr h => ?_), b⟩
  · obtain ⟨p, dx, rfl, _⟩ := h
    rfl
  · obtain ⟨p, dx, rfl, hp, k⟩ := h
    refine ⟨_, pss_cons (ps_fld (pv 0) pe_int rfl) (pss_cons (ps_fld (pv 0) pe_non rfl) (pss_one (ps_fld (pv 0) pe_bl rfl))), ?_⟩
    refine ⟨_, rfl, p, z.C, dx, _, rfl, hp, T.clC, T.cT, (by show 0 < 1000; decide), ?_⟩
    refine ⟨_, rfl, p, z.C, dx, _, rfl, upd_same, T.clC, T.cS, (by show 1 < 1000; decide), ?_⟩
    refine ⟨_, rfl, p, z.C, dx, _, rfl, upd_same, T.clC, T.cO, (by show 2 < 1000; decide), ?_⟩
    refine k _ ⟨dx, .non, ?_, rfl⟩ (((Fr.one).upd_in List.mem_cons_self).upd_in List.mem_cons_self)
    rw [upd_same]
    exact congrArg (fun l => some (HO.ins z.C dx l)) kf_init
/-- lock -/
def spLock (z : Adr) : Sp := fun vs H Q E => ∃ (k : Addr) (p : Str) (t : Int) (sh : Option Str) (op : Bool), vs = [.ref k, .str p] ∧ KeepAt z.C H k t sh op ∧
  (sh = none → ∀ H', KeepAt z.C H' k (t + 1) (some p) false → Fr H H' [k] → Q (.int (t + 1)) H') ∧ (sh ≠ none → ∀ H' d, Same H H' → E (.ref z.eSh) (some d) H')
theorem scLock : FnScope ["self", "to"] ["self", "to"] (defScope sLock) := ⟨rfl, rfl, rfl, by decide +kernel, rfl, by decide +kernel, by decide +kernel⟩
theorem pr_lock {f : Addr} (F : FunB K "lock" "Keeper.lock" sLock f ["self", "to"]) (T : Txt K mg z) (FX : Prm P w K mg base CX0 1 z.iSh ["self", "found"] (spXI z.eSh)) : Prm P w K mg base (L2.CX P w) 3 f ["self", "to"] (spLock z) := by
  obtain ⟨fd, F, b⟩ := F
  obtain ⟨fdX, GX, bX⟩ := FX
  refine ⟨fd, F.okX scLock (fun vs H Q E h => ?_) (fun cdv A outer s H vs Q E hr h => ?_), b⟩
  · obtain ⟨k, p, t, sh, op, rfl, _⟩ := h
    rfl
  · obtain ⟨k, p, t, sh, op, rfl, ⟨dx, v, hk, ho⟩, kq, ke⟩ := h
    refine ⟨_, pss_cons (ps_if (pt_cmp (pc_notN (pe_fld (pv 0) rfl)))
        (pss_one (ps_raise rfl (takes_of rfl rfl rfl rfl) (pmk_oex T.oSh.ox T.oSh.iC T.oSh.tI GX hr bX .nil pass0 (by rfl) T.oSh.gC (pa_cons (pe_ix ix_tup (pe_fld (pv 0) rfl) pe_int (fun _ _ => rfl)) pa_nil)))) pss_nil)
      (pss_cons (ps_fldaug (pv 0) pe_int in_add)
      (pss_cons (ps_fld (pv 0) (pe_tup (pa_cons (pe_fld (pv 0) rfl) (pa_cons (pv 1) pa_nil))) rfl)
      (pss_cons (ps_fld (pv 0) pe_bl rfl)
      (pss_one (ps_ret (pe_fld (pv 0) rfl)))))), ?_⟩
    refine ⟨_, rfl, k, z.C, dx, _, v, rfl, hk, T.clC, T.cS, kf_shut, _, rfl, ?_⟩
    cases sh with
    | some q =>
      obtain ⟨a, rfl, ha⟩ := ho
      refine iteT ?_
      refine ⟨_, rfl, k, z.C, dx, _, _, rfl, hk, T.clC, T.cS, kf_shut, a, _, _, _, rfl, rfl, SqT.of ha, rfl, ?_⟩
      refine ⟨(by show 1 ≤ 1000; decide), fun e he => ⟨e, _, rfl, upd_same, fun d hd hde => ⟨rfl, d, _, upd_same, (by rw [upd_ne hde, upd_same]), (by rw [upd_ne hde] at hd; exact hd), ?_⟩⟩⟩
      exact ke (fun z => nomatch z) _ d (raise_same he hd hde rfl)
    | none =>
      have ho : v = .non := ho
      subst ho
      refine iteF ?_
      refine ⟨_, rfl, k, z.C, dx, _, _, rfl, hk, T.clC, T.cT, kf_times, t, 1, rfl, rfl, dx, _, hk, (by show 3 < 1000; decide), ?_⟩
      refine ⟨_, rfl, k, z.C, dx, _, _, rfl, upd_same, T.clC, T.cT, (by rw [kf_ptimes]; exact kf_times), _, rfl, (by show 2 ≤ sizeLine; decide), fun p1 hp1 => ?_⟩
      have nk : k ≠ p1 := ne_of_none upd_same hp1
      refine ⟨_, rfl, k, z.C, dx, _, rfl, (by rw [upd_ne nk]; exact upd_same), T.clC, T.cS, (by rw [kf_ptimes]; show 3 < 1000; decide), ?_⟩
      refine ⟨_, rfl, k, z.C, dx, _, rfl, upd_same, T.clC, T.cO, (by rw [kf_ptimes, kf_pshut]; show 3 < 1000; decide), ?_⟩
      have e1 : putF "kept_open" (V.bl false) (putF "kept_shut" (V.ref p1) (putF "kept_times" (V.int (t + 1)) (kf t V.non op))) = kf (t + 1) (.ref p1) false := by rw [kf_ptimes, kf_pshut, kf_popen]
      refine ⟨_, rfl, k, z.C, dx, _, _, rfl, upd_same, T.clC, T.cT, (by rw [e1]; exact kf_times), ?_⟩
      have hp0 : H p1 = none := by rw [upd_ne nk.symm] at hp1; exact hp1
      refine kq rfl _ ⟨dx, .ref p1, ?_, p1, rfl, ?_⟩ ((((Fr.one).upd_new hp0).upd_in List.mem_cons_self).upd_in List.mem_cons_self)
      · rw [upd_same, e1]
      · rw [upd_ne nk.symm, upd_ne nk.symm, upd_same]
end
end K23

/-! ### Keeper, the rest -/
namespace K23
open PySem PySem.Spec PyProof.Rows L2 K23x
section
variable {P : Program} {w : World} {K : PySem.W.Frag} {mg : Str → Option Value} {base : Heap} {z : Adr}
/-- locked: what it is locked by -/
def spLocked (z : Adr) : Sp := fun vs H Q _ => ∃ (k : Addr) (t : Int) (sh : Option Str) (op : Bool), vs = [.ref k] ∧ KeepAt z.C H k t sh op ∧ ∀ v, Opt H v (sh.map fun p => (t, p)) → Q v H
theorem scLocked : FnScope ["self"] ["self"] (defScope sLocked) := ⟨rfl, rfl, rfl, by decide +kernel, rfl, by decide +kernel, by decide +kernel⟩

theorem pr_locked {f : Addr} (F : FunB K "locked" "Keeper.locked" sLocked f ["self"]) (T : Txt K mg z) : Prm P w K mg base CX0 1 f ["self"] (spLocked z) := by
  obtain ⟨fd, F, b⟩ := F
  refine ⟨fd, F.ok scLocked (fun vs H Q E h => ?_) (fun cdv A outer s H vs Q E hr h => ?_), b⟩
  · obtain ⟨k, t, sh, op, rfl, _⟩ := h
    rfl
  · obtain ⟨k, t, sh, op, rfl, ⟨dx, v, hk, ho⟩, kq⟩ := h
    refine ⟨_, pss_one (ps_ret (pe_fld (pv 0) rfl)), ?_⟩
    exact ⟨_, rfl, k, z.C, dx, _, v, rfl, hk, T.clC, T.cS, kf_shut, kq v ho⟩
def spIsOpen (z : Adr) : Sp := fun vs H Q _ => ∃ (k : Addr) (t : Int) (sh : Option Str) (op : Bool), vs = [.ref k] ∧ KeepAt z.C H k t sh op ∧ Q (.bl op) H
theorem scIsOpen : FnScope ["self"] ["self"] (defScope sIsOpen) := ⟨rfl, rfl, rfl, by decide +kernel, rfl, by decide +kernel, by decide +kernel⟩

theorem pr_isopen {f : Addr} (F : FunB K "is_open" "Keeper.is_open" sIsOpen f ["self"]) (T : Txt K mg z) : Prm P w K mg base CX0 1 f ["self"] (spIsOpen z) := by
  obtain ⟨fd, F, b⟩ := F
  refine ⟨fd, F.ok scIsOpen (fun vs H Q E h => ?_) (fun cdv A outer s H vs Q E hr h => ?_), b⟩
  · obtain ⟨k, t, sh, op, rfl, _⟩ := h
    rfl
  · obtain ⟨k, t, sh, op, rfl, ⟨dx, v, hk, ho⟩, kq⟩ := h
    refine ⟨_, pss_one (ps_ret (pe_fld (pv 0) rfl)), ?_⟩
    exact ⟨_, rfl, k, z.C, dx, _, _, rfl, hk, T.clC, T.cO, kf_open, kq⟩
def spTimes (z : Adr) : Sp := fun vs H Q _ => ∃ (k : Addr) (t : Int) (sh : Option Str) (op : Bool), vs = [.ref k] ∧ KeepAt z.C H k t sh op ∧ Q (.int t) H
theorem scTimes : FnScope ["self"] ["self"] (defScope sTimes) := ⟨rfl, rfl, rfl, by decide +kernel, rfl, by decide +kernel, by decide +kernel⟩

theorem pr_times {f : Addr} (F : FunB K "times" "Keeper.times" sTimes f ["self"]) (T : Txt K mg z) : Prm P w K mg base CX0 1 f ["self"] (spTimes z) := by
  obtain ⟨fd, F, b⟩ := F
  refine ⟨fd, F.ok scTimes (fun vs H Q E h => ?_) (fun cdv A outer s H vs Q E hr h => ?_), b⟩
  · obtain ⟨k, t, sh, op, rfl, _⟩ := h
    rfl
  · obtain ⟨k, t, sh, op, rfl, ⟨dx, v, hk, ho⟩, kq⟩ := h
    refine ⟨_, pss_one (ps_ret (pe_fld (pv 0) rfl)), ?_⟩
    exact ⟨_, rfl, k, z.C, dx, _, _, rfl, hk, T.clC, T.cT, kf_times, kq⟩
/-- is_this -/
def spThis (z : Adr) : Sp := fun vs H Q _ => ∃ (k : Addr) (n t : Int) (sh : Option Str) (op : Bool), vs = [.ref k, .int n] ∧ KeepAt z.C H k t sh op ∧ 1 ≤ n ∧ n ≤ 10 ^ 30 ∧ Q (.bl (sh.isSome && decide (t = n))) H
theorem scThis : FnScope ["self", "number"] ["self", "number"] (defScope sThis) := ⟨rfl, rfl, rfl, by decide +kernel, rfl, by decide +kernel, by decide +kernel⟩

theorem pr_this {f : Addr} (F : FunB K "is_this" "Keeper.is_this" sThis f ["self", "number"]) (T : Txt K mg z) (FW : Prm P w K mg base CX0 1 z.fW ["thing", "low", "high"] spWhole) : Prm P w K mg base CX0 2 f ["self", "number"] (spThis z) := by
  obtain ⟨fd, F, b⟩ := F
  obtain ⟨fdW, GW, bW⟩ := FW
  obtain ⟨tg, hG⟩ := T.mgG
  refine ⟨fd, F.ok scThis (fun vs H Q E h => ?_) (fun cdv A outer s H vs Q E hr h => ?_), b⟩
  · obtain ⟨k, n, t, sh, op, rfl, _⟩ := h
    rfl
  · obtain ⟨k, n, t, sh, op, rfl, ⟨dx, v, hk, ho⟩, n1, n2, kq⟩ := h
    refine ⟨_, pss_one (ps_ret (pe_and (pe_cmp (pc_notN (pe_fld (pv 0) rfl))) (pe_and (pe_call GW hr (by rfl) T.mgW T.kW bW .nil pass0 (pa_cons (pv 1) (pa_cons pe_int (pa_cons (pe_glob (v := .int (10 ^ 30)) (by rfl) hG ⟨_, rfl⟩) pa_nil))))
      (pe_one (pe_cmpR op_eq (pv 1) (pe_ix ix_tup (pe_fld (pv 0) rfl) pe_int (fun _ _ => rfl)) (nomark _)))))), ?_⟩
    refine ⟨_, rfl, k, z.C, dx, _, v, rfl, hk, T.clC, T.cS, kf_shut, _, rfl, ?_⟩
    cases sh with
    | none =>
      have ho : v = .non := ho
      subst ho
      exact iteF kq
    | some p =>
      obtain ⟨a, rfl, ha⟩ := ho
      refine iteT ?_
      refine ⟨_, rfl, n, 1, 10 ^ 30, rfl, _, rfl, ?_⟩
      rw [decide_eq_true n1, decide_eq_true n2]
      refine iteT ?_
      refine ⟨_, rfl, _, rfl, k, z.C, dx, _, _, rfl, hk, T.clC, T.cS, kf_shut, a, _, _, _, rfl, rfl, SqT.of ha, rfl, rfl, ?_⟩
      rw [ini]
      exact kq
/-- opens -/
def spOpens (z : Adr) : Sp := fun vs H Q _ => ∃ (k : Addr) (n t : Int) (sh : Option Str) (op : Bool), vs = [.ref k, .int n] ∧ KeepAt z.C H k t sh op ∧ 1 ≤ n ∧ n ≤ 10 ^ 30 ∧
  ∀ H', KeepAt z.C H' k t sh (op || (sh.isSome && (decide (t = n) && !op))) → Fr H H' [k] → Q (.bl (sh.isSome && (decide (t = n) && !op))) H'
theorem scOpens : FnScope ["self", "number"] ["self", "number"] (defScope sOpens) := ⟨rfl, rfl, rfl, by decide +kernel, rfl, by decide +kernel, by decide +kernel⟩

theorem pr_opens {f : Addr} (F : FunB K "opens" "Keeper.opens" sOpens f ["self", "number"]) (T : Txt K mg z) (FT : Prm P w K mg base CX0 2 z.kThis ["self", "number"] (spThis z)) : Prm P w K mg base CX0 3 f ["self", "number"] (spOpens z) := by
  obtain ⟨fd, F, b⟩ := F
  obtain ⟨fdT, GT, bT⟩ := FT
  refine ⟨fd, F.ok scOpens (fun vs H Q E h => ?_) (fun cdv A outer s H vs Q E hr h => ?_), b⟩
  · obtain ⟨k, n, t, sh, op, rfl, _⟩ := h
    rfl
  · obtain ⟨k, n, t, sh, op, rfl, ⟨dx, v, hk, ho⟩, n1, n2, kq⟩ := h
    refine ⟨_, pss_cons (ps_if (PW.pt (pw_or (pt_val (pe_fld (pv 0) rfl)) (pw_or1 (pt_not (pt_val (pe_meth (pv 0) T.clC T.mThis GT hr bT .nil pass0 (pa_cons (pv 1) pa_nil))))))) (pss_one (ps_ret pe_bl)) pss_nil)
      (pss_cons (ps_fld (pv 0) pe_bl rfl) (pss_one (ps_ret pe_bl))), ?_⟩
    refine ⟨_, rfl, k, z.C, dx, _, _, rfl, hk, T.clC, T.cO, kf_open, op, rfl, ?_⟩
    cases op with
    | true =>
      refine iteT (iteT ?_)
      have e : (sh.isSome && (decide (t = n) && !true)) = false := by simp
      rw [e] at kq
      exact kq H ⟨dx, v, hk, ho⟩ (Fr.same (Same.refl H))
    | false =>
      refine iteF ?_
      refine ⟨_, rfl, k, dx, _, rfl, hk, kf_no (by decide +kernel) (by decide +kernel) (by decide +kernel), _, rfl, k, n, t, sh, false, rfl, ⟨dx, v, hk, ho⟩, n1, n2, _, rfl, ?_⟩
      have e : (sh.isSome && (decide (t = n) && !false)) = (sh.isSome && decide (t = n)) := by simp
      rw [e] at kq
      cases c : (sh.isSome && decide (t = n)) with
      | false =>
        rw [c] at kq
        exact iteT (kq H ⟨dx, v, hk, ho⟩ (Fr.same (Same.refl H)))
      | true =>
        rw [c] at kq
        refine iteF ?_
        refine ⟨_, rfl, k, z.C, dx, _, rfl, hk, T.clC, T.cO, (by show 3 < 1000; decide), ?_⟩
        refine kq _ ⟨dx, v, ?_, ho.fr (l := [k]) Fr.one fun a ha xs e => ?_⟩ Fr.one
        · rw [upd_same, kf_popen]
          rfl
        · rw [List.mem_singleton.mp ha, hk] at e
          cases e
/-- let_go -/
def spGo (z : Adr) : Sp := fun vs H Q _ => ∃ (k : Addr) (t : Int) (sh : Option Str) (op : Bool), vs = [.ref k] ∧ KeepAt z.C H k t sh op ∧ ∀ H', KeepAt z.C H' k t none false → Fr H H' [k] → Q .non H'
theorem scGo : FnScope ["self"] ["self"] (defScope sLetGo) := ⟨rfl, rfl, rfl, by decide +kernel, rfl, by decide +kernel, by decide +kernel⟩

theorem pr_go {f : Addr} (F : FunB K "let_go" "Keeper.let_go" sLetGo f ["self"]) (T : Txt K mg z) : Prm P w K mg base CX0 1 f ["self"] (spGo z) := by
  obtain ⟨fd, F, b⟩ := F
  refine ⟨fd, F.ok scGo (fun vs H Q E h => ?_) (fun cdv A outer s H vs Q E hr h => ?_), b⟩
  · obtain ⟨k, t, sh, op, rfl, _⟩ := h
    rfl
  · obtain ⟨k, t, sh, op, rfl, ⟨dx, v, hk, ho⟩, kq⟩ := h
    refine ⟨_, pss_cons (ps_fld (pv 0) pe_non rfl) (pss_one (ps_fld (pv 0) pe_bl rfl)), ?_⟩
    refine ⟨_, rfl, k, z.C, dx, _, rfl, hk, T.clC, T.cS, (by show 3 < 1000; decide), ?_⟩
    refine ⟨_, rfl, k, z.C, dx, _, rfl, upd_same, T.clC, T.cO, (by rw [kf_pshut]; show 3 < 1000; decide), ?_⟩
    refine kq _ ⟨dx, .non, ?_, rfl⟩ ((Fr.one).upd_in List.mem_cons_self)
    rw [upd_same, kf_pshut, kf_popen]
/-- unlock -/
def spUnlock (z : Adr) : Sp := fun vs H Q E => ∃ (k : Addr) (t : Int) (sh : Option Str) (op : Bool), vs = [.ref k] ∧ KeepAt z.C H k t sh op ∧ (op = true → sh ≠ none) ∧
  (op = true → ∀ H', KeepAt z.C H' k t none false → Fr H H' [k] → Q .non H') ∧ (op = false → ∀ H' d c, c = z.eNS ∨ c = z.eNR → Same H H' → E (.ref c) (some d) H')
theorem scUnlock : FnScope ["self"] ["self"] (defScope sUnlock) := ⟨rfl, rfl, rfl, by decide +kernel, rfl, by decide +kernel, by decide +kernel⟩

theorem pr_unlock {f : Addr} (F : FunB K "unlock" "Keeper.unlock" sUnlock f ["self"]) (T : Txt K mg z) (FG : Prm P w K mg base CX0 1 z.kGo ["self"] (spGo z))
    (FN : Prm P w K mg base CX0 1 z.iNS ["self", "found"] (spXI z.eNS)) (FR : Prm P w K mg base CX0 1 z.iNR ["self", "found"] (spXI z.eNR)) : Prm P w K mg base (L2.CX P w) 3 f ["self"] (spUnlock z) := by
  obtain ⟨fd, F, b⟩ := F
  obtain ⟨fdG, GG, bG⟩ := FG
  obtain ⟨fdN, GN, bN⟩ := FN
  obtain ⟨fdR, GR, bR⟩ := FR
  refine ⟨fd, F.okX scUnlock (fun vs H Q E h => ?_) (fun cdv A outer s H vs Q E hr h => ?_), b⟩
  · obtain ⟨k, t, sh, op, rfl, _⟩ := h
    rfl
  · obtain ⟨k, t, sh, op, rfl, ⟨dx, v, hk, ho⟩, os, kq, ke⟩ := h
    have hr1 : Room 1 _ := hr.mono (by decide)
    refine ⟨_, pss_cons (ps_if (pt_cmp (pc_isN (pe_fld (pv 0) rfl))) (pss_one (ps_raise rfl (takes_of rfl rfl rfl rfl) (pmk_oex T.oNS.ox T.oNS.iC T.oNS.tI GN hr bN .nil pass0 (by rfl) T.oNS.gC (pa_cons pe_non pa_nil)))) pss_nil)
      (pss_cons (ps_if (pt_not (pt_val (pe_fld (pv 0) rfl))) (pss_one (ps_raise rfl (takes_of rfl rfl rfl rfl) (pmk_oex T.oNR.ox T.oNR.iC T.oNR.tI GR hr bR .nil pass0 (by rfl) T.oNR.gC (pa_cons (pe_ix ix_tup (pe_fld (pv 0) rfl) pe_int (fun _ _ => rfl)) pa_nil)))) pss_nil)
      (pss_one (ps_expr (pe_meth0 (pv 0) T.clC T.mGo GG hr1 bG .nil pass0)))), ?_⟩
    refine ⟨_, rfl, k, z.C, dx, _, v, rfl, hk, T.clC, T.cS, kf_shut, _, rfl, ?_⟩
    cases sh with
    | none =>
      have ho : v = .non := ho
      subst ho
      have eo : op = false := by
        cases op with
        | false => rfl
        | true => exact absurd rfl (os rfl)
      refine iteT ?_
      refine ⟨(by show 1 ≤ 1000; decide), fun e he => ⟨e, _, rfl, upd_same, fun d hd hde => ⟨rfl, d, _, upd_same, (by rw [upd_ne hde, upd_same]), (by rw [upd_ne hde] at hd; exact hd), ?_⟩⟩⟩
      exact ke eo _ d _ (.inl rfl) (raise_same he hd hde rfl)
    | some q =>
      obtain ⟨a, rfl, ha⟩ := ho
      refine iteF ?_
      refine ⟨_, rfl, k, z.C, dx, _, _, rfl, hk, T.clC, T.cO, kf_open, op, rfl, ?_⟩
      cases op with
      | false =>
        refine iteT ?_
        refine ⟨_, rfl, k, z.C, dx, _, _, rfl, hk, T.clC, T.cS, kf_shut, a, _, _, _, rfl, rfl, SqT.of ha, rfl, ?_⟩
        refine ⟨(by show 1 ≤ 1000; decide), fun e he => ⟨e, _, rfl, upd_same, fun d hd hde => ⟨rfl, d, _, upd_same, (by rw [upd_ne hde, upd_same]), (by rw [upd_ne hde] at hd; exact hd), ?_⟩⟩⟩
        exact ke rfl _ d _ (.inr rfl) (raise_same he hd hde rfl)
      | true =>
        refine iteF ?_
        exact ⟨_, rfl, k, dx, _, rfl, hk, kf_no (by decide +kernel) (by decide +kernel) (by decide +kernel), k, t, some q, true, rfl, ⟨dx, .ref a, hk, a, rfl, ha⟩, kq rfl⟩
/-- ended, by the lock's own number -/
def spEnded (z : Adr) : Sp := fun vs H Q _ => ∃ (k : Addr) (t : Int) (p : Str) (op : Bool), vs = [.ref k, .int t] ∧ KeepAt z.C H k t (some p) op ∧ 1 ≤ t ∧ t ≤ 10 ^ 30 ∧ ∀ H', KeepAt z.C H' k t none false → Fr H H' [k] → Q .non H'
theorem scEnded : FnScope ["self", "number"] ["self", "number"] (defScope sEnded) := ⟨rfl, rfl, rfl, by decide +kernel, rfl, by decide +kernel, by decide +kernel⟩

theorem pr_ended {f : Addr} (F : FunB K "ended" "Keeper.ended" sEnded f ["self", "number"]) (T : Txt K mg z) (FT : Prm P w K mg base CX0 2 z.kThis ["self", "number"] (spThis z)) (FG : Prm P w K mg base CX0 1 z.kGo ["self"] (spGo z)) :
    Prm P w K mg base CX0 3 f ["self", "number"] (spEnded z) := by
  obtain ⟨fd, F, b⟩ := F
  obtain ⟨fdG, GG, bG⟩ := FG
  obtain ⟨fdT, GT, bT⟩ := FT
  refine ⟨fd, F.ok scEnded (fun vs H Q E h => ?_) (fun cdv A outer s H vs Q E hr h => ?_), b⟩
  · obtain ⟨k, t, p, op, rfl, _⟩ := h
    rfl
  · obtain ⟨k, t, p, op, rfl, ⟨dx, v, hk, ho⟩, t1, t2, kq⟩ := h
    have hr1 : Room 1 _ := hr.mono (by decide)
    refine ⟨_, pss_cons (ps_if (pt_cmp (pc_isN (pe_fld (pv 0) rfl))) pss_never pss_nil)
      (pss_cons (ps_if (pt_not (pt_val (pe_meth (pv 0) T.clC T.mThis GT hr bT .nil pass0 (pa_cons (pv 1) pa_nil)))) pss_never pss_nil)
      (pss_one (ps_expr (pe_meth0 (pv 0) T.clC T.mGo GG hr1 bG .nil pass0)))), ?_⟩
    have ho' := ho
    obtain ⟨a, rfl, ha⟩ := ho
    refine ⟨_, rfl, k, z.C, dx, _, _, rfl, hk, T.clC, T.cS, kf_shut, _, rfl, iteF ?_⟩
    refine ⟨_, rfl, k, dx, _, rfl, hk, kf_no (by decide +kernel) (by decide +kernel) (by decide +kernel), _, rfl, k, t, t, some p, op, rfl, ⟨dx, _, hk, ho'⟩, t1, t2, _, rfl, ?_⟩
    rw [decide_eq_true (rfl : t = t)]
    refine iteF ?_
    exact ⟨_, rfl, k, dx, _, rfl, hk, kf_no (by decide +kernel) (by decide +kernel) (by decide +kernel), k, t, some p, op, rfl, ⟨dx, _, hk, ho'⟩, kq⟩
end
end K23

/-! ### Holder -/
namespace K23
open PySem PySem.Spec PyProof.Rows L2 K23x
section
variable {P : Program} {w : World} {K : PySem.W.Frag} {mg : Str → Option Value} {base : Heap} {z : Adr}
def spHI (D : Addr) : Sp := fun vs H Q _ => ∃ (p dx : Addr), vs = [.ref p] ∧ H p = some (.ins D dx []) ∧ ∀ H', HoldAt D H' p 0 none → Fr H H' [p] → Q .non H'
theorem scHI : FnScope ["self"] ["self"] (defScope sHI) := ⟨rfl, rfl, rfl, by decide +kernel, rfl, by decide +kernel, by decide +kernel⟩

theorem pr_hi {f : Addr} (F : FunB K "__init__" "Holder.__init__" sHI f ["self"]) (T : Txt K mg z) : Prm P w K mg base CX0 1 f ["self"] (spHI z.D) := by
  obtain ⟨fd, F, b⟩ := F
  refine ⟨fd, F.ok scHI (fun vs H Q E h => ?_) (fun cdv A outer s H vs Q E hr h => ?_), b⟩
  · obtain ⟨p, dx, rfl, _⟩ := h
    rfl
  · obtain ⟨p, dx, rfl, hp, k⟩ := h
    refine ⟨_, pss_cons (ps_fld (pv 0) pe_int rfl) (pss_cons (ps_fld (pv 0) pe_non rfl) (pss_one (ps_fld (pv 0) pe_non rfl))), ?_⟩
    refine ⟨_, rfl, p, z.D, dx, _, rfl, hp, T.clD, T.dG, (by show 0 < 1000; decide), ?_⟩
    refine ⟨_, rfl, p, z.D, dx, _, rfl, upd_same, T.clD, T.dR, (by show 1 < 1000; decide), ?_⟩
    refine ⟨_, rfl, p, z.D, dx, _, rfl, upd_same, T.clD, T.dN, (by show 2 < 1000; decide), ?_⟩
    refine k _ ⟨dx, .non, .non, ?_, rfl⟩ (((Fr.one).upd_in List.mem_cons_self).upd_in List.mem_cons_self)
    rw [upd_same]
    exact congrArg (fun l => some (HO.ins z.D dx l)) hf_init
/-- right -/
def spRight (z : Adr) : Sp := fun vs H Q _ => ∃ (h : Addr) (g : Int) (r : Option Int), vs = [.ref h] ∧ HoldAt z.D H h g r ∧ ∀ v, Opt H v (r.map fun n => (n, ("home" : Str))) → Q v H
theorem scRight : FnScope ["self"] ["self"] (defScope sRight) := ⟨rfl, rfl, rfl, by decide +kernel, rfl, by decide +kernel, by decide +kernel⟩

theorem pr_right {f : Addr} (F : FunB K "right" "Holder.right" sRight f ["self"]) (T : Txt K mg z) : Prm P w K mg base CX0 1 f ["self"] (spRight z) := by
  obtain ⟨fd, F, b⟩ := F
  refine ⟨fd, F.ok scRight (fun vs H Q E h => ?_) (fun cdv A outer s H vs Q E hr h => ?_), b⟩
  · obtain ⟨h, g, r, rfl, _⟩ := h
    rfl
  · obtain ⟨h, g, r, rfl, ⟨dx, v, n, hh, ho⟩, kq⟩ := h
    refine ⟨_, pss_one (ps_ret (pe_fld (pv 0) rfl)), ?_⟩
    exact ⟨_, rfl, h, z.D, dx, _, v, rfl, hh, T.clD, T.dR, hf_right, kq v ho⟩
def spSeen (z : Adr) : Sp := fun vs H Q _ => ∃ (h : Addr) (g : Int) (r : Option Int), vs = [.ref h] ∧ HoldAt z.D H h g r ∧ Q (.int g) H
theorem scSeen : FnScope ["self"] ["self"] (defScope sSeen) := ⟨rfl, rfl, rfl, by decide +kernel, rfl, by decide +kernel, by decide +kernel⟩

theorem pr_seen {f : Addr} (F : FunB K "seen" "Holder.seen" sSeen f ["self"]) (T : Txt K mg z) : Prm P w K mg base CX0 1 f ["self"] (spSeen z) := by
  obtain ⟨fd, F, b⟩ := F
  refine ⟨fd, F.ok scSeen (fun vs H Q E h => ?_) (fun cdv A outer s H vs Q E hr h => ?_), b⟩
  · obtain ⟨h, g, r, rfl, _⟩ := h
    rfl
  · obtain ⟨h, g, r, rfl, ⟨dx, v, n, hh, ho⟩, kq⟩ := h
    refine ⟨_, pss_one (ps_ret (pe_fld (pv 0) rfl)), ?_⟩
    exact ⟨_, rfl, h, z.D, dx, _, _, rfl, hh, T.clD, T.dG, hf_great, kq⟩
/-- note: nothing that is told here changes -/
def spNote (z : Adr) : Sp := fun vs H Q _ => ∃ (h : Addr) (g : Int) (r : Option Int) (x y : V), vs = [.ref h, x, y] ∧ HoldAt z.D H h g r ∧ ∀ H', HoldAt z.D H' h g r → Fr H H' [h] → Q .non H'
theorem scNote : FnScope ["self", "number", "place"] ["self", "number", "place"] (defScope sNote) := ⟨rfl, rfl, rfl, by decide +kernel, rfl, by decide +kernel, by decide +kernel⟩

theorem pr_note {f : Addr} (F : FunB K "note" "Holder.note" sNote f ["self", "number", "place"]) (T : Txt K mg z) : Prm P w K mg base CX0 1 f ["self", "number", "place"] (spNote z) := by
  obtain ⟨fd, F, b⟩ := F
  refine ⟨fd, F.ok scNote (fun vs H Q E h => ?_) (fun cdv A outer s H vs Q E hr h => ?_), b⟩
  · obtain ⟨h, g, r, x, y, rfl, _⟩ := h
    rfl
  · obtain ⟨h, g, r, x, y, rfl, ⟨dx, v, n, hh, ho⟩, kq⟩ := h
    refine ⟨_, pss_one (ps_fld (pv 0) (pe_tup (pa_cons (pv 1) (pa_cons (pv 2) pa_nil))) rfl), ?_⟩
    refine ⟨_, rfl, _, rfl, (by show 2 ≤ sizeLine; decide), fun p1 hp1 => ?_⟩
    have nh : h ≠ p1 := ne_of_none hh hp1
    refine ⟨_, rfl, h, z.D, dx, _, rfl, (by rw [upd_ne nh]; exact hh), T.clD, T.dN, (by show 3 < 1000; decide), ?_⟩
    have f1 : Fr H (upd (upd H p1 (.tup [x, y])) h (.ins z.D dx (putF "kept_note" (.ref p1) (hf g v n)))) [h] := (Fr.upd_new (Fr.same (Same.refl H)) hp1).upd_in List.mem_cons_self
    refine kq _ ⟨dx, v, .ref p1, ?_, ho.fr f1 fun a ha xs e => ?_⟩ f1
    · rw [upd_same, hf_pnote]
    · rw [List.mem_singleton.mp ha, hh] at e
      cases e
/-- got -/
def spGot (z : Adr) : Sp := fun vs H Q _ => ∃ (h : Addr) (n g : Int) (r : Option Int), vs = [.ref h, .int n, .str "home"] ∧ HoldAt z.D H h g r ∧ 1 ≤ n ∧
  (n ≤ g → Q (.bl false) H) ∧ (g < n → ∀ H', HoldAt z.D H' h n (some n) → Fr H H' [h] → Q (.bl true) H')
theorem scGot : FnScope ["self", "number", "place"] ["self", "number", "place"] (defScope sGot) := ⟨rfl, rfl, rfl, by decide +kernel, rfl, by decide +kernel, by decide +kernel⟩

theorem pr_got {f : Addr} (F : FunB K "got" "Holder.got" sGot f ["self", "number", "place"]) (T : Txt K mg z) (FW : Prm P w K mg base CX0 1 z.fW ["thing", "low", "high"] spWhole) : Prm P w K mg base CX0 2 f ["self", "number", "place"] (spGot z) := by
  obtain ⟨fd, F, b⟩ := F
  obtain ⟨fdW, GW, bW⟩ := FW
  refine ⟨fd, F.ok scGot (fun vs H Q E h => ?_) (fun cdv A outer s H vs Q E hr h => ?_), b⟩
  · obtain ⟨h, n, g, r, rfl, _⟩ := h
    rfl
  · obtain ⟨h, n, g, r, rfl, ⟨dx, v, m, hh, ho⟩, n1, kf, kt⟩ := h
    refine ⟨_, pss_cons (ps_if (pt_not (pt_val (pe_call GW hr (by rfl) T.mgW T.kW bW .nil pass0 (pa_cons (pv 1) (pa_cons pe_int (pa_cons (pv 1) pa_nil)))))) pss_never pss_nil)
      (pss_cons (ps_if (pt_cmpR op_le (pv 1) (pe_fld (pv 0) rfl) (nomark _)) (pss_one (ps_ret pe_bl)) pss_nil)
      (pss_cons (ps_fld (pv 0) (pv 1) rfl)
      (pss_cons (ps_fld (pv 0) (pe_tup (pa_cons (pv 1) (pa_cons (pv 2) pa_nil))) rfl)
      (pss_one (ps_ret pe_bl))))), ?_⟩
    refine ⟨_, rfl, _, rfl, n, 1, n, rfl, _, rfl, ?_⟩
    rw [decide_eq_true n1, decide_eq_true (Int.le_refl n)]
    refine iteF ?_
    refine ⟨_, rfl, _, rfl, h, z.D, dx, _, _, rfl, hh, T.clD, T.dG, hf_great, n, g, rfl, rfl, _, rfl, ?_⟩
    by_cases c : n ≤ g
    · rw [decide_eq_true c]
      exact iteT (kf c)
    · rw [decide_eq_false c]
      refine iteF ?_
      refine ⟨_, rfl, _, rfl, h, z.D, dx, _, rfl, hh, T.clD, T.dG, (by show 3 < 1000; decide), ?_⟩
      refine ⟨_, rfl, _, rfl, (by show 2 ≤ sizeLine; decide), fun p1 hp1 => ?_⟩
      have nh : h ≠ p1 := ne_of_none upd_same hp1
      have hp0 : H p1 = none := by rw [upd_ne nh.symm] at hp1; exact hp1
      refine ⟨_, rfl, h, z.D, dx, _, rfl, (by rw [upd_ne nh]; exact upd_same), T.clD, T.dR, (by rw [hf_pgreat]; show 3 < 1000; decide), ?_⟩
      refine kt (by omega) _ ⟨dx, .ref p1, m, ?_, p1, rfl, ?_⟩ (((Fr.one).upd_new hp0).upd_in List.mem_cons_self)
      · rw [upd_same, hf_pgreat, hf_pright]
      · rw [upd_ne nh.symm, upd_same]
/-- use -/
def spUse (z : Adr) : Sp := fun vs H Q E => ∃ (h : Addr) (g : Int) (r : Option Int), vs = [.ref h] ∧ HoldAt z.D H h g r ∧
  (∀ n, r = some n → ∀ a H', H' a = some (.tup [.int n, .str "home"]) → HoldAt z.D H' h g none → Fr H H' [h] → Q (.ref a) H') ∧ (r = none → ∀ H' d, Same H H' → E (.ref z.eNR) (some d) H')
theorem scUse : FnScope ["self", "found"] ["self"] (defScope sUse) := ⟨rfl, rfl, rfl, by decide +kernel, rfl, by decide +kernel, by decide +kernel⟩

theorem pr_use {f : Addr} (F : FunB K "use" "Holder.use" sUse f ["self"]) (T : Txt K mg z) (FR : Prm P w K mg base CX0 1 z.iNR ["self", "found"] (spXI z.eNR)) : Prm P w K mg base (L2.CX P w) 3 f ["self"] (spUse z) := by
  obtain ⟨fd, F, b⟩ := F
  obtain ⟨fdR, GR, bR⟩ := FR
  refine ⟨fd, F.okX scUse (fun vs H Q E h => ?_) (fun cdv A outer s H vs Q E hr h => ?_), b⟩
  · obtain ⟨h, g, r, rfl, _⟩ := h
    rfl
  · obtain ⟨h, g, r, rfl, ⟨dx, v, m, hh, ho⟩, kq, ke⟩ := h
    refine ⟨_, pss_cons (ps_set (i := 1) scUse.nd rfl (Or.inl rfl) (pe_fld (pv 0) rfl))
      (pss_cons (ps_if (pt_cmp (pc_isN (pv 1))) (pss_one (ps_raise rfl (takes_of rfl rfl rfl rfl) (pmk_oex T.oNR.ox T.oNR.iC T.oNR.tI GR hr bR .nil pass0 (by rfl) T.oNR.gC (pa_cons pe_non pa_nil)))) pss_nil)
      (pss_cons (ps_fld (pv 0) pe_non rfl)
      (pss_one (ps_ret (pv 1))))), ?_⟩
    refine ⟨_, rfl, h, z.D, dx, _, v, rfl, hh, T.clD, T.dR, hf_right, ?_⟩
    refine ⟨v, rfl, _, rfl, ?_⟩
    cases r with
    | none =>
      have ho : v = .non := ho
      subst ho
      refine iteT ?_
      refine ⟨(by show 1 ≤ 1000; decide), fun e he => ⟨e, _, rfl, upd_same, fun d hd hde => ⟨rfl, d, _, upd_same, (by rw [upd_ne hde, upd_same]), (by rw [upd_ne hde] at hd; exact hd), ?_⟩⟩⟩
      exact ke rfl _ d (raise_same he hd hde rfl)
    | some n =>
      obtain ⟨a, rfl, ha⟩ := ho
      refine iteF ?_
      refine ⟨_, rfl, h, z.D, dx, _, rfl, hh, T.clD, T.dR, (by show 3 < 1000; decide), ?_⟩
      refine ⟨_, rfl, ?_⟩
      refine kq n rfl a _ ?_ ⟨dx, .non, m, ?_, rfl⟩ Fr.one
      · rw [upd_ne (ne_of ha hh (by intro q; cases q))]
        exact ha
      · rw [upd_same, hf_pright]
theorem scGive : FnScope ["self", "found"] ["self"] (defScope sGive) := ⟨rfl, rfl, rfl, by decide +kernel, rfl, by decide +kernel, by decide +kernel⟩

theorem pr_give {f : Addr} (F : FunB K "give" "Holder.give" sGive f ["self"]) (T : Txt K mg z) (FU : Prm P w K mg base (L2.CX P w) 3 z.hUse ["self"] (spUse z)) (FN : Prm P w K mg base CX0 1 z.hNote ["self", "number", "place"] (spNote z)) :
    Prm P w K mg base (L2.CX P w) 4 f ["self"] (spUse z) := by
  obtain ⟨fd, F, b⟩ := F
  obtain ⟨fdU, GU, bU⟩ := FU
  obtain ⟨fdN, GN, bN⟩ := FN
  refine ⟨fd, F.okX scGive (fun vs H Q E h => ?_) (fun cdv A outer s H vs Q E hr h => ?_), b⟩
  · obtain ⟨h, g, r, rfl, _⟩ := h
    rfl
  · obtain ⟨h, g, r, rfl, ⟨dx, v, m, hh, ho⟩, kq, ke⟩ := h
    have hr1 : Room 1 _ := hr.mono (by decide)
    refine ⟨_, pss_cons (ps_set (i := 1) scGive.nd rfl (Or.inl rfl) (pe_meth0 (E := E) (pv 0) T.clD T.mUse GU hr bU .nil (passes_call (W := fun cls d _ H => E cls d H) (takes_of rfl rfl rfl rfl) (fun _ _ _ _ h => h))))
      (pss_cons (ps_expr (pe_meth (pv 0) T.clD T.mNote GN hr1 bN .nil pass0 (pa_cons (pe_ix ix_tup (pv 1) pe_int (fun _ _ => rfl)) (pa_cons (pe_ix ix_tup (pv 1) pe_int (fun _ _ => rfl)) pa_nil))))
      (pss_one (ps_ret (pv 1)))), ?_⟩
    refine ⟨_, rfl, h, dx, _, rfl, hh, hf_no (by decide +kernel) (by decide +kernel) (by decide +kernel), h, g, r, rfl, ⟨dx, v, m, hh, ho⟩, ?_, ke⟩
    intro n hn a H1 ha hH f1
    have hH' := hH
    obtain ⟨dx1, v1, m1, hh1, ho1⟩ := hH
    refine ⟨_, rfl, h, dx1, _, rfl, hh1, hf_no (by decide +kernel) (by decide +kernel) (by decide +kernel), _, rfl, a, _, _, _, rfl, rfl, SqT.of ha, rfl, _, rfl, a, _, _, _, rfl, rfl, SqT.of ha, rfl, h, g, none, _, _, rfl, hH', fun H2 hH2 f2 => ?_⟩
    refine ⟨_, rfl, ?_⟩
    refine kq n hn a H2 (f2 a _ ha fun z => ?_) hH2 (f1.trans f2)
    rw [List.mem_singleton.mp z, hh1] at ha
    cases ha
end
end K23

/-! ### the law's draws -/
namespace K23
open PySem PySem.Spec PyProof.Rows L2 K23x
/-- a box of draws stands at p; it was asked n times at most -/
def BoxAt (H : Hp) (p : Addr) (n : Int) : Prop := ∃ a b c : Int, H p = some (.lst [.int a, .int b, .int c]) ∧ 0 ≤ b ∧ b < 2147483629 ∧ 0 ≤ c ∧ c ≤ n
theorem BoxAt.same {H H' : Hp} {p : Addr} {n : Int} (x : BoxAt H p n) (f : Same H H') : BoxAt H' p n := by
  obtain ⟨a, b, c, h, r⟩ := x
  exact ⟨a, b, c, f _ _ h, r⟩
theorem BoxAt.fr {H H' : Hp} {p : Addr} {n : Int} {l : List Addr} (x : BoxAt H p n) (f : Fr H H' l) (hp : p ∉ l) : BoxAt H' p n := by
  obtain ⟨a, b, c, h, r⟩ := x
  exact ⟨a, b, c, f _ _ h hp, r⟩
theorem BoxAt.mono {H : Hp} {p : Addr} {n m : Int} (x : BoxAt H p n) (h : n ≤ m) : BoxAt H p m := by
  obtain ⟨a, b, c, e, h1, h2, h3, h4⟩ := x
  exact ⟨a, b, c, e, h1, h2, h3, Int.le_trans h4 h⟩
section
variable {P : Program} {w : World} {K : PySem.W.Frag} {mg : Str → Option Value} {base : Heap} {z : Adr}
def spCell (K : PySem.W.Frag) : Sp := fun vs H Q _ => ∃ (a : Addr) (ns : List Int) (k : Int), vs = [.ref a, .int k] ∧ SqL K H a (ns.map V.int) ∧ 0 ≤ k ∧ ∀ n, Q (.int n) H
theorem scCell : FnScope ["_law_script", "_law_k"] ["_law_script", "_law_k"] (defScope sCell) := ⟨rfl, rfl, rfl, by decide +kernel, rfl, by decide +kernel, by decide +kernel⟩

theorem pr_cell {f : Addr} (F : FunB K "_law_cell" "_law_cell" sCell f ["_law_script", "_law_k"]) (T : Txt K mg z) : Prm P w K mg base CX0 1 f ["_law_script", "_law_k"] (spCell K) := by
  obtain ⟨fd, F, b⟩ := F
  refine ⟨fd, F.ok scCell (fun vs H Q E h => ?_) (fun cdv A outer s H vs Q E hr h => ?_), b⟩
  · obtain ⟨a, ns, k, rfl, _⟩ := h
    rfl
  · obtain ⟨a, ns, k, rfl, hS, hk, kq⟩ := h
    refine ⟨_, pss_cons (ps_if (pt_cmpR op_lt (pv 1) (pe_callB call_len_seq (by rfl) T.bLen PySem.boot_len (pa_cons (pv 0) pa_nil)) (nomark _)) (pss_one (ps_ret (pe_ix ix_list (pv 0) (pv 1) (fun _ _ => rfl)))) pss_nil)
      (pss_one (ps_ret (pe_op op_add (pe_op op_mul pe_int (pv 1)) pe_int))), ?_⟩
    refine ⟨_, rfl, _, rfl, a, _, rfl, .inl hS, k, _, rfl, rfl, _, rfl, ?_⟩
    rw [List.length_map]
    by_cases c : k < (ns.length : Int)
    · rw [decide_eq_true c]
      refine iteT ?_
      obtain ⟨j, rfl⟩ : ∃ j : Nat, k = (j : Int) := ⟨k.toNat, by omega⟩
      have hj : j < ns.length := by omega
      exact ⟨_, rfl, _, rfl, a, _, _, .int ns[j], rfl, rfl, hS, at_of (j := j) rfl (by rw [List.getElem?_map, List.getElem?_eq_getElem hj]; rfl), kq _⟩
    · rw [decide_eq_false c]
      exact iteF ⟨_, rfl, 98765431, k, rfl, rfl, .inl ⟨by decide, by decide⟩, _, _, rfl, rfl, kq _⟩
def spBox : Sp := fun vs H Q _ => ∃ (c : Int), vs = [.int c] ∧ ∀ p H', H p = none → BoxAt H' p 0 → Same H H' → Q (.ref p) H'
theorem scBox : FnScope ["_law_cell_here"] ["_law_cell_here"] (defScope sBox) := ⟨rfl, rfl, rfl, by decide +kernel, rfl, by decide +kernel, by decide +kernel⟩

theorem pr_box {f : Addr} (F : FunB K "_law_box" "_law_box" sBox f ["_law_cell_here"]) (T : Txt K mg z) : Prm P w K mg base CX0 1 f ["_law_cell_here"] spBox := by
  obtain ⟨fd, F, b⟩ := F
  refine ⟨fd, F.ok scBox (fun vs H Q E h => ?_) (fun cdv A outer s H vs Q E hr h => ?_), b⟩
  · obtain ⟨c, rfl, _⟩ := h
    rfl
  · obtain ⟨c, rfl, kq⟩ := h
    refine ⟨_, pss_one (ps_ret (pe_lst (pa_cons (pe_callB (call_max2 rfl) (by rfl) T.bMax (by decide +kernel) (pa_cons pe_int (pa_cons (pe_op op_sub (pv 0) (pe_op op_pow pe_int pe_int)) pa_nil)))
      (pa_cons (pe_op op_mod (pv 0) pe_int) (pa_cons pe_int pa_nil))))), ?_⟩
    refine ⟨_, rfl, 10, 18, rfl, rfl, ⟨by decide, by decide, by decide⟩, _, _, rfl, rfl, _, _, rfl, ?_⟩
    refine ⟨_, rfl, _, _, rfl, rfl, (by show (0 : Int) < 2147483629; decide), ?_⟩
    refine ⟨(by show 3 ≤ sizeLine; decide), fun p hp => ?_⟩
    exact kq p _ hp ⟨_, _, _, upd_same, Int.emod_nonneg _ (by decide), Int.emod_lt_of_pos _ (by decide), Int.le_refl _, Int.le_refl _⟩ (Fr.nil ((Fr.same (Same.refl H)).upd_new hp))
/-- a draw -/
def spTake : Sp := fun vs H Q _ => ∃ (p : Addr) (m n : Int), vs = [.ref p, .int m] ∧ BoxAt H p n ∧ n ≤ 1000 ∧ 1 ≤ m ∧ m ≤ 1000000 ∧ ∀ d H', 0 ≤ d → d < m → BoxAt H' p (n + 1) → Fr H H' [p] → Q (.int d) H'
theorem scTake : FnScope ["_law_box_here", "_law_many", "_law_digit", "_law_number"] ["_law_box_here", "_law_many"] (defScope sTake) := ⟨rfl, rfl, rfl, by decide +kernel, rfl, by decide +kernel, by decide +kernel⟩

theorem pr_take {f : Addr} (F : FunB K "_law_take" "_law_take" sTake f ["_law_box_here", "_law_many"]) (T : Txt K mg z) : Prm P w K mg base CX0 1 f ["_law_box_here", "_law_many"] spTake := by
  obtain ⟨fd, F, b⟩ := F
  refine ⟨fd, F.ok scTake (fun vs H Q E h => ?_) (fun cdv A outer s H vs Q E hr h => ?_), b⟩
  · obtain ⟨p, m, n, rfl, _⟩ := h
    rfl
  · obtain ⟨p, m, n, rfl, ⟨x, y, c, hp, y0, y1, c0, c1⟩, n1, m1, m2, kq⟩ := h
    refine ⟨_, pss_cons (ps_if (pt_cmpR op_gt (pe_ix ix_list (pv 0) pe_int (fun _ _ => rfl)) pe_int (nomark _))
        (pss_cons (ps_set (i := 2) scTake.nd rfl (Or.inl rfl) (pe_op op_mod (pe_ix ix_list (pv 0) pe_int (fun _ _ => rfl)) (pv 1)))
        (pss_cons (ps_asg (pe_op op_fdivN (pe_ix ix_list (pv 0) pe_int (fun _ _ => rfl)) (pv 1)) (pg_sub (pv 0) pe_int set_list))
        (pss_one (ps_ret (pv 2))))) pss_nil)
      (pss_cons (ps_asg (pe_op op_add (pe_ix ix_list (pv 0) pe_int (fun _ _ => rfl)) pe_int) (pg_sub (pv 0) pe_int set_list))
      (pss_cons (ps_set (i := 3) scTake.nd rfl (Or.inl rfl) (pe_op op_mod (pe_op op_pow (pe_op op_add (pe_op op_add (pe_ix ix_list (pv 0) pe_int (fun _ _ => rfl)) (pe_op op_mul pe_int (pe_ix ix_list (pv 0) pe_int (fun _ _ => rfl)))) pe_int) pe_int) pe_int))
      (pss_cons (ps_set (i := 3) scTake.nd rfl (Or.inl rfl) (pe_op op_mod (pe_op op_pow (pe_op op_add (pv 3) (pe_op op_mul pe_int (pe_ix ix_list (pv 0) pe_int (fun _ _ => rfl)))) pe_int) pe_int))
      (pss_one (ps_ret (pe_op op_mod (pe_op op_fdiv (pv 3) pe_int) (pv 1))))))), ?_⟩
    refine ⟨_, rfl, p, _, 0, _, rfl, rfl, SqL.of hp, rfl, _, _, rfl, rfl, _, rfl, ?_⟩
    by_cases hx : 0 < x
    · rw [decide_eq_true hx]
      refine iteT ?_
      refine ⟨_, rfl, p, _, 0, _, rfl, rfl, SqL.of hp, rfl, _, rfl, x, m, rfl, rfl, (by show 0 < m; omega), ?_⟩
      refine ⟨_, rfl, p, _, 0, _, rfl, rfl, SqL.of hp, rfl, _, rfl, x, m, rfl, rfl, ⟨by omega, by omega⟩, ?_⟩
      refine ⟨_, rfl, p, _, 0, 0, rfl, rfl, hp, rfl, ?_⟩
      refine ⟨_, rfl, ?_⟩
      exact kq _ _ (Int.emod_nonneg _ (by omega)) (Int.emod_lt_of_pos _ (by omega)) ⟨_, _, _, upd_same, y0, y1, c0, by omega⟩ Fr.one
    · rw [decide_eq_false hx]
      refine iteF ?_
      refine ⟨_, rfl, p, _, 2, _, rfl, rfl, SqL.of hp, rfl, c, 1, rfl, rfl, ?_⟩
      refine ⟨_, rfl, p, _, 2, 2, rfl, rfl, hp, rfl, ?_⟩
      have h2 : (upd H p (.lst ([V.int x, V.int y, V.int c].set 2 (V.int (c + 1))))) p = some (.lst [.int x, .int y, .int (c + 1)]) := upd_same
      refine ⟨_, rfl, p, _, 1, _, rfl, rfl, SqL.of h2, rfl, _, rfl, p, _, 2, _, rfl, rfl, SqL.of h2, rfl, 6700417, c + 1, rfl, rfl, .inl ⟨by decide, by decide⟩, y, 6700417 * (c + 1), rfl, rfl, _, 271, rfl, rfl, _, 5, rfl, rfl, ⟨by decide, by decide, ?_⟩, _, 2147483647, rfl, rfl, (by show (0 : Int) < 2147483647; decide), ?_⟩
      · omega
      dsimp only
      generalize hm1 : ((y + 6700417 * (c + 1) + 271) ^ (5 : Int).toNat) % 2147483647 = u1
      have u1a : 0 ≤ u1 := by rw [← hm1]; exact Int.emod_nonneg _ (by decide)
      have u1b : u1 < 2147483647 := by rw [← hm1]; exact Int.emod_lt_of_pos _ (by decide)
      refine ⟨_, rfl, _, rfl, p, _, 2, _, rfl, rfl, SqL.of h2, rfl, 15485863, c + 1, rfl, rfl, .inl ⟨by decide, by decide⟩, u1, _, rfl, rfl, _, 5, rfl, rfl, ⟨by decide, by decide, ?_⟩, _, 2147483629, rfl, rfl, (by show (0 : Int) < 2147483629; decide), ?_⟩
      · omega
      refine ⟨_, rfl, _, 16, rfl, rfl, ⟨by decide, by decide⟩, _, rfl, _, m, rfl, rfl, (by show 0 < m; omega), ?_⟩
      exact kq _ _ (Int.emod_nonneg _ (by omega)) (Int.emod_lt_of_pos _ (by omega)) ⟨_, _, _, h2, y0, y1, by omega, by omega⟩ Fr.one
end
end K23

/-! ### the law's names -/
namespace K23
open PySem PySem.Spec PyProof.Rows L2 K23x
abbrev letters : Str := "abcdefghijklmnopqrstuvwxyz"
theorem letters_len : letters.cps.toList.length = 26 := by decide +kernel
theorem letters_at {d : Int} (h0 : 0 ≤ d) (h1 : d < 26) : ∃ c, atI letters.cps.toList d = some c := by
  obtain ⟨j, rfl⟩ : ∃ j : Nat, d = (j : Int) := ⟨d.toNat, by omega⟩
  have hj : j < letters.cps.toList.length := by rw [letters_len]; omega
  exact ⟨letters.cps.toList[j], atI_nat (List.getElem?_eq_getElem hj)⟩
theorem letters_size : letters.length ≤ sizeLine := Nat.le_trans (show letters.length ≤ 26 by decide +kernel) (by decide)
/-- each sign of a text is one -/
def SO (x : Str) : Prop := ∀ c ∈ x.cps.toList, c < 0x110000
theorem SO.ok {x : Str} (h : SO x) : PyData.strOk x = true := by
  unfold PyData.strOk
  rw [Array.all_eq_true']
  intro c hc
  exact decide_eq_true (h c (Array.mem_toList_iff.mpr hc))
theorem so_letters : SO letters := by
  have h : (letters.cps.toList.all fun c => decide (c < 0x110000)) = true := by decide +kernel
  intro c hc
  exact of_decide_eq_true (List.all_eq_true.mp h c hc)
theorem so_one {c : Nat} {d : Int} (h : atI letters.cps.toList d = some c) : SO ⟨#[c]⟩ := by
  intro x hx
  have e : x = c := by simpa using hx
  subst e
  unfold atI at h
  cases e : ixN letters.cps.toList.length d with
  | none =>
    rw [e] at h
    cases h
  | some j =>
    rw [e] at h
    exact so_letters x (List.mem_of_getElem? h)
theorem so_app {a b : Str} (ha : SO a) (hb : SO b) : SO (a ++ b) := by
  intro c hc
  rw [Str.cps_append, Array.toList_append] at hc
  rcases List.mem_append.mp hc with h | h
  · exact ha c h
  · exact hb c h
theorem so_cut {a : Str} {lo hi : Option Int} (ha : SO a) : SO (cutS a lo hi) := fun c hc => by
  have hc : c ∈ ((a.cps.toList.drop (HT.sIx a.length 0 lo)).take (HT.sIx a.length a.length hi - HT.sIx a.length 0 lo)).toArray.toList := hc
  rw [List.toList_toArray] at hc
  exact ha c (List.mem_of_mem_drop (List.mem_of_mem_take hc))
theorem so_fold {sep : Str} (hs : SO sep) : ∀ {ys : List Str} {acc : Array Nat}, (∀ c ∈ acc.toList, c < 0x110000) → (∀ y ∈ ys, SO y) → ∀ c ∈ (ys.foldl (fun acc p => acc ++ sep.cps ++ p.cps) acc).toList, c < 0x110000
  | [], _, ha, _ => ha
  | y :: r, acc, ha, hy => by
    rw [List.foldl_cons]
    refine so_fold hs (fun c hc => ?_) (fun x hx => hy x (List.mem_cons_of_mem _ hx))
    rw [Array.toList_append, Array.toList_append] at hc
    rcases List.mem_append.mp hc with h | h
    · rcases List.mem_append.mp h with h | h
      · exact ha c h
      · exact hs c h
    · exact hy y List.mem_cons_self c h
theorem so_none {c : Nat} {P : Prop} (h : c ∈ (#[] : Array Nat).toList) : P := by simp at h
theorem so_join {ys : List Str} (hy : ∀ y ∈ ys, SO y) : SO (Txt.join "" ys) := by
  have he : SO "" := fun c hc => by
    have e : (("" : Str).cps.toList) = [] := by decide +kernel
    rw [e] at hc
    cases hc
  show ∀ c ∈ ((ys.drop 1).foldl (fun acc p => acc ++ ("" : Str).cps ++ p.cps) (ys.headD Str.empty).cps).toList, c < 0x110000
  refine so_fold he (fun c hc => ?_) (fun y h => hy y (List.mem_of_mem_drop h))
  cases ys with
  | nil => exact so_none hc
  | cons y r => exact hy y List.mem_cons_self c hc
theorem so_snoc {ys : List Str} {y : Str} (h : ∀ x ∈ ys, SO x) (hy : SO y) : ∀ x ∈ ys ++ [y], SO x := fun x hx => by
  rcases List.mem_append.mp hx with e | e
  · exact h x e
  · rw [List.mem_singleton.mp e]
    exact hy
theorem sum_ones : ∀ {ys : List Str}, (∀ y ∈ ys, y.length = 1) → (ys.map (·.length)).sum = ys.length
  | [], _ => rfl
  | a :: r, h => by
    rw [List.map_cons, List.sum_cons, sum_ones (fun y hy => h y (List.mem_cons_of_mem _ hy)), h a List.mem_cons_self, List.length_cons]
    omega
theorem yesT {σ : L2.St} {H : Hp} {A B : Hp → Prop} (h : A H) : tYes σ H (fun b H3 => if b = true then A H3 else B H3) := by
  show (if true = true then A H else B H)
  rw [if_pos rfl]
  exact h
theorem size_small {n : Nat} (h : n ≤ 1000) : n ≤ sizeLine := Nat.le_trans h (by decide)
section
variable {P : Program} {w : World} {K : PySem.W.Frag} {mg : Str → Option Value} {base : Heap} {z : Adr}
def spNames : Sp := fun vs H Q _ => ∃ (p : Addr) (m n : Int), vs = [.ref p, .int m] ∧ BoxAt H p n ∧ n ≤ 900 ∧ (m = 1 ∨ m = 2) ∧
  ∀ (q : Addr) (nms : List Str) H', H q = none → H' q = some (.lst (nms.map V.str)) → (nms.length : Int) = m → (∀ x ∈ nms, SO x) → Fr H H' [p] → Q (.ref q) H'
theorem scNames : FnScope ["_law_box_here", "_law_many", "_law_letters", "_law_first", "_law_stem", "_law_at", "_law_k"] ["_law_box_here", "_law_many"] (defScope sNames) := ⟨rfl, rfl, rfl, by decide +kernel, rfl, by decide +kernel, by decide +kernel⟩

abbrev nNames : List Str := ["_law_box_here", "_law_many", "_law_letters", "_law_first", "_law_stem", "_law_at", "_law_k"]
/-- one letter drawn -/
abbrev tDraw : TE := tOp rIxS (tVar 2) (tCall spTake [] E0 (tCons (tVar 0) (tCons (tC (.int 26)) tNil)))
theorem pr_names {f : Addr} (F : FunB K "_law_names" "_law_names" sNames f ["_law_box_here", "_law_many"]) (T : Txt K mg z) (FT : Prm P w K mg base CX0 1 z.lTake ["_law_box_here", "_law_many"] spTake) : Prm P w K mg base CX0 2 f ["_law_box_here", "_law_many"] spNames := by
  obtain ⟨fd, F, b⟩ := F
  obtain ⟨fdT, GT, bT⟩ := FT
  refine ⟨fd, F.ok scNames (fun vs H Q E h => ?_) (fun cdv A outer s H vs Q E hr h => ?_), b⟩
  · obtain ⟨p, m, n, rfl, _⟩ := h
    rfl
  · obtain ⟨p, m, n, rfl, hB, n1, hm, kq⟩ := h
    refine ⟨_, pss_cons (ps_set (i := 2) scNames.nd rfl (Or.inr rfl) pe_str)
      (pss_cons (ps_set (i := 3) scNames.nd rfl (Or.inr rfl) (pe_call GT hr (by rfl) T.mgTake T.kTake bT .nil pass0 (pa_cons (pv 0) (pa_cons pe_int pa_nil))))
      (pss_cons (ps_set (i := 4) scNames.nd rfl (Or.inr rfl) (pe_join pe_str (pe_lc (own := [("_law_k", 6)]) (g := gName 6) (tt := tYes) (te := tDraw) rfl scNames.nd (pi_range1 (by rfl) T.bRange (pa_cons pe_int pa_nil)) (blkOk_by (N := nNames) (sc := defScope sNames) (by decide +kernel))
        (fun _ _ _ _ _ => pg_name (i := 6) scNames.nd rfl (Or.inl rfl)) (fun _ _ _ _ _ => pts_nil) (fun _ _ _ _ _ => pe_ix ix_str (pv 2) (pe_call GT hr (by rfl) T.mgTake T.kTake bT .nil pass0 (pa_cons (pv 0) (pa_cons pe_int pa_nil))) (fun _ _ => rfl)))))
      (pss_cons (ps_set (i := 5) scNames.nd rfl (Or.inr rfl) (pe_call GT hr (by rfl) T.mgTake T.kTake bT .nil pass0 (pa_cons (pv 0) (pa_cons pe_int pa_nil))))
      (pss_cons (ps_if (pt_cmpR op_eq (pe_call GT hr (by rfl) T.mgTake T.kTake bT .nil pass0 (pa_cons (pv 0) (pa_cons pe_int pa_nil))) pe_int (nomark _))
        (pss_one (ps_ret (pe_lc (own := [("_law_k", 6)]) (g := gName 6) (tt := tYes) (te := tSl rSlS (tOp (fun x y H Q => ∃ i j, x = .str i ∧ y = .str j ∧ i.length + j.length ≤ sizeLine ∧ Q (.str (i ++ j)) H) (tVar 4) (tOp rIxS (tVar 2) (tVar 3))) tNoPart
            (tPart (tOp (rI0 fun i j => .int (i + j)) (tC (.int 1)) (tOp (rI (fun _ j => 0 < j) fun i j => .int (i % j)) (tOp (rI0 fun i j => .int (i + j)) (tVar 3) (tOp (rI CMul fun i j => .int (i * j)) (tC (.int 5)) (tVar 6))) (tC (.int 6)))))) rfl scNames.nd
          (pi_range1 (by rfl) T.bRange (pa_cons (pv 1) pa_nil)) (blkOk_by (N := nNames) (sc := defScope sNames) (by decide +kernel))
          (fun _ _ _ _ _ => pg_name (i := 6) scNames.nd rfl (Or.inl rfl)) (fun _ _ _ _ _ => pts_nil)
          (fun _ _ _ _ _ => pe_slice sl_str (pe_op op_add_str (pv 4) (pe_ix ix_str (pv 2) (pv 3) (fun _ _ => rfl))) po_none (po_some (pe_op op_add pe_int (pe_op op_mod (pe_op op_add (pv 3) (pe_op op_mul pe_int (pv 6))) pe_int))))))) pss_nil)
      (pss_one (ps_ret (pe_lc (own := [("_law_k", 6)]) (g := gName 6) (tt := tYes) (te := tOp (fun x y H Q => ∃ i j, x = .str i ∧ y = .str j ∧ i.length + j.length ≤ sizeLine ∧ Q (.str (i ++ j)) H)
            (tOp (fun x y H Q => ∃ i j, x = .str i ∧ y = .str j ∧ i.length + j.length ≤ sizeLine ∧ Q (.str (i ++ j)) H) (tSl rSlS (tVar 4) tNoPart (tPart (tVar 5)))
              (tOp rIxS (tVar 2) (tOp (rI (fun _ j => 0 < j) fun i j => .int (i % j)) (tOp (rI0 fun i j => .int (i + j)) (tVar 3) (tOp (rI CMul fun i j => .int (i * j)) (tC (.int 7)) (tVar 6))) (tC (.int 26)))))
            (tSl rSlS (tVar 4) (tPart (tVar 5)) tNoPart)) rfl scNames.nd
          (pi_range1 (by rfl) T.bRange (pa_cons (pv 1) pa_nil)) (blkOk_by (N := nNames) (sc := defScope sNames) (by decide +kernel))
          (fun _ _ _ _ _ => pg_name (i := 6) scNames.nd rfl (Or.inl rfl)) (fun _ _ _ _ _ => pts_nil)
          (fun _ _ _ _ _ => pe_op op_add_str (pe_op op_add_str (pe_slice sl_str (pv 4) po_none (po_some (pv 5))) (pe_ix ix_str (pv 2) (pe_op op_mod (pe_op op_add (pv 3) (pe_op op_mul pe_int (pv 6))) pe_int) (fun _ _ => rfl))) (pe_slice sl_str (pv 4) (po_some (pv 5)) po_none))))))))), ?_⟩
    -- letters; first
    refine ⟨_, rfl, p, 26, n, rfl, hB, by omega, by decide, by decide, fun d1 H1 d1a d1b hB1 f1 => ?_⟩
    -- stem
    refine ⟨⟨_, rfl⟩, 5, rfl, by decide, by decide, fun D hD => lc_range (lo := 0) (n := 5) (fun i H' => ∃ ys : List Str, H' D = some (.lst (ys.map V.str)) ∧ ys.length = i ∧ (∀ y ∈ ys, y.length = 1) ∧ (∀ y ∈ ys, SO y) ∧ BoxAt H' p (n + 1 + i) ∧ Fr H H' [p]) ?_ ?_ ?_⟩
    · have npD : p ∉ [D] := fun z => by
        obtain ⟨_, _, _, e, _⟩ := hB1
        rw [List.mem_singleton.mp z] at e
        rw [e] at hD
        cases hD
      have nDp : D ∉ [p] := fun z => npD (by rw [List.mem_singleton.mp z]; exact List.mem_cons_self)
      exact ⟨[], upd_same, rfl, (fun y h => by cases h), (fun y h => by cases h), (hB1.fr (l := [D]) Fr.one npD).mono (by omega), f1.upd_new (f1.free nDp hD)⟩
    · rintro i H2 hi ⟨ys, hy, hl, h1, hso, hB2, f2⟩
      refine ⟨rfl, yesT ?_⟩
      refine ⟨_, rfl, _, rfl, p, 26, n + 1 + i, rfl, hB2, by omega, by decide, by decide, fun d H3 da db hB3 f3 => ?_⟩
      obtain ⟨c, hc⟩ := letters_at da db
      have npD : p ≠ D := fun z => by
        obtain ⟨_, _, _, e, _⟩ := hB1
        rw [z] at e
        rw [e] at hD
        cases hD
      have hy3 : H3 D = some (.lst (ys.map V.str)) := f3 D _ hy fun z => npD (List.mem_singleton.mp z).symm
      refine ⟨letters, d, c, rfl, rfl, letters_size, hc, ys.map V.str, hy3, (by rw [List.length_map]; exact small1000 (by omega)), ys ++ [⟨#[c]⟩], ?_, ?_, ?_, so_snoc hso (so_one hc), ?_, ?_⟩
      · rw [upd_same, List.map_append]
        rfl
      · rw [List.length_append, hl]
        rfl
      · intro y hy
        rcases List.mem_append.mp hy with h | h
        · exact h1 y h
        · rw [List.mem_singleton.mp h]
          rfl
      · exact (hB3.fr (l := [D]) Fr.one (fun z => npD (List.mem_singleton.mp z))).mono (by omega)
      · exact (f2.trans f3).upd_new (f1.free (fun z => npD (List.mem_singleton.mp z).symm) hD)
    rintro H2 ⟨ys, hy, hl, h1, hso, hB2, f2⟩
    have hsum := sum_ones h1
    have e0 : ("" : Str).length = 0 := by decide +kernel
    refine ⟨"", D, ys, rfl, rfl, .inl (SqL.of hy), (by rw [hsum, hl, e0]; decide), ?_⟩
    have hst : (Txt.join "" ys).length ≤ 5 := by
      show (Builtin.Str.glued "" ys).length ≤ 5
      rw [size_glued, hsum, hl, e0]
      decide
    have sst := so_join hso
    generalize Txt.join "" ys = st at hst sst ⊢
    -- at
    refine ⟨_, rfl, p, 6, n + 1 + (5 : Nat), rfl, hB2, by omega, by decide, by decide, fun d2 H3 d2a d2b hB3 f3 => ?_⟩
    -- the two ways
    refine ⟨_, rfl, p, 3, _, rfl, hB3, by omega, by decide, by decide, fun d3 H4 d3a d3b hB4 f4 => ⟨rfl, _, rfl, ?_⟩⟩
    have f5 : Fr H H4 [p] := (f2.trans f3).trans f4
    have ndp : ∀ {D2 : Addr}, H4 D2 = none → D2 ∉ [p] := fun {D2} e z => by
      obtain ⟨_, _, _, q, _⟩ := hB4
      rw [← List.mem_singleton.mp z, e] at q
      cases q
    refine ite2 (fun _ => ?_) (fun _ => ?_)
    · refine ⟨_, rfl, m, rfl, by omega, by omega, fun D2 hD2 => lc_range (lo := 0) (n := m.toNat) (fun i H' => ∃ ys : List Str, H' D2 = some (.lst (ys.map V.str)) ∧ ys.length = i ∧ (∀ y ∈ ys, SO y) ∧ Fr H H' [p]) ?_ ?_ ?_⟩
      · exact ⟨[], upd_same, rfl, (fun y h => by cases h), f5.upd_new (f5.free (ndp hD2) hD2)⟩
      · rintro i H5 hi ⟨ys, hy, hl, hso, f6⟩
        obtain ⟨c, hc⟩ := letters_at d1a d1b
        refine ⟨rfl, yesT ?_⟩
        refine ⟨_, rfl, _, rfl, _, rfl, letters, d1, c, rfl, rfl, letters_size, hc, st, ⟨#[c]⟩, rfl, rfl, size_small (by show st.length + 1 ≤ 1000; omega), _, rfl, _, rfl, 5, _, rfl, rfl, .inl ⟨by decide, by decide⟩, d1, _, rfl, rfl, _, 6, rfl, rfl, (by show (0 : Int) < 6; decide), 1, _, rfl, rfl, _, rfl,
          st ++ ⟨#[c]⟩, rfl, size_small (by rw [Str.length_append]; show st.length + 1 ≤ 1000; omega), ys.map V.str, hy, (by rw [List.length_map]; exact small1000 (by omega)), ys ++ [cutS (st ++ ⟨#[c]⟩) none (some (1 + (d1 + 5 * (0 + (i : Int))) % 6))], ?_, ?_, so_snoc hso (so_cut (so_app sst (so_one hc))), f6.upd_new (f5.free (ndp hD2) hD2)⟩
        · rw [upd_same, List.map_append]
          rfl
        · rw [List.length_append, hl]
          rfl
      · rintro H5 ⟨ys, hy, hl, hso, f6⟩
        exact kq D2 ys H5 (f5.free (ndp hD2) hD2) hy (by omega) hso f6
    · refine ⟨_, rfl, m, rfl, by omega, by omega, fun D2 hD2 => lc_range (lo := 0) (n := m.toNat) (fun i H' => ∃ ys : List Str, H' D2 = some (.lst (ys.map V.str)) ∧ ys.length = i ∧ (∀ y ∈ ys, SO y) ∧ Fr H H' [p]) ?_ ?_ ?_⟩
      · exact ⟨[], upd_same, rfl, (fun y h => by cases h), f5.upd_new (f5.free (ndp hD2) hD2)⟩
      · rintro i H5 hi ⟨ys, hy, hl, hso, f6⟩
        obtain ⟨c, hc⟩ := letters_at (d := (d1 + 7 * (0 + (i : Int))) % 26) (Int.emod_nonneg _ (by decide)) (Int.emod_lt_of_pos _ (by decide))
        have l1 := cutS_length st none (some d2)
        have l2 := cutS_length st (some d2) none
        refine ⟨rfl, yesT ?_⟩
        refine ⟨_, rfl, _, rfl, d2, rfl, st, rfl, size_small (by omega), _, rfl, _, rfl, _, rfl, 7, _, rfl, rfl, .inl ⟨by decide, by decide⟩, d1, _, rfl, rfl, _, 26, rfl, rfl, (by show (0 : Int) < 26; decide), letters, _, c, rfl, rfl, letters_size, hc,
          _, ⟨#[c]⟩, rfl, rfl, size_small (by show (cutS st none (some d2)).length + 1 ≤ 1000; omega), _, rfl, _, rfl, d2, rfl, st, rfl, size_small (by omega), _, _, rfl, rfl, size_small (by rw [Str.length_append]; show (cutS st none (some d2)).length + 1 + (cutS st (some d2) none).length ≤ 1000; omega),
          ys.map V.str, hy, (by rw [List.length_map]; exact small1000 (by omega)), ys ++ [cutS st none (some d2) ++ ⟨#[c]⟩ ++ cutS st (some d2) none], ?_, ?_, so_snoc hso (so_app (so_app (so_cut sst) (so_one hc)) (so_cut sst)), f6.upd_new (f5.free (ndp hD2) hD2)⟩
        · rw [upd_same, List.map_append]
          rfl
        · rw [List.length_append, hl]
          rfl
      · rintro H5 ⟨ys, hy, hl, hso, f6⟩
        exact kq D2 ys H5 (f5.free (ndp hD2) hD2) hy (by omega) hso f6
end
end K23

/-! What stands in the heap of a state of the law: Rep; and how each deed carries it on. -/
namespace K23
open PySem PySem.Spec PyProof.Rows L2
/-- where the law's objects stand: the state, the lock, the dict of rights, the words; the names; the rights -/
structure Loc where
  (S k hd w : Addr)
  nms : List Str
  ha : Str → Addr
structure Sta (l : Loc) : Prop where
  nd : l.nms.Nodup
  inj : ∀ a ∈ l.nms, ∀ b ∈ l.nms, l.ha a = l.ha b → a = b
  kn : ∀ a ∈ l.nms, l.ha a ≠ l.k
  sh : l.S ≠ l.hd
  ln : l.nms.length ≤ 2
  so : ∀ p ∈ l.nms, SO p
def stK (l : Loc) (uv : V) : List (Key × V) := [(Sum.inr "keeper", .ref l.k), (Sum.inr "holders", .ref l.hd), (Sum.inr "words", .ref l.w), (Sum.inr "used", uv)]
theorem key_ne {a b : Str} (h : ¬ a = b) : ¬ (Sum.inr a : Key) = Sum.inr b := fun e => h (Sum.inr.inj e)
section
variable {l : Loc} {uv : V}
theorem k_kh : ¬ (Sum.inr ("keeper" : Str) : Key) = Sum.inr ("holders" : Str) := key_ne (by decide +kernel)
theorem k_kw : ¬ (Sum.inr ("keeper" : Str) : Key) = Sum.inr ("words" : Str) := key_ne (by decide +kernel)
theorem k_ku : ¬ (Sum.inr ("keeper" : Str) : Key) = Sum.inr ("used" : Str) := key_ne (by decide +kernel)
theorem k_hw : ¬ (Sum.inr ("holders" : Str) : Key) = Sum.inr ("words" : Str) := key_ne (by decide +kernel)
theorem k_hu : ¬ (Sum.inr ("holders" : Str) : Key) = Sum.inr ("used" : Str) := key_ne (by decide +kernel)
theorem k_wu : ¬ (Sum.inr ("words" : Str) : Key) = Sum.inr ("used" : Str) := key_ne (by decide +kernel)
theorem st_keeper : valV (stK l uv) (Sum.inr "keeper" : Key) = some (.ref l.k) := valV_pos rfl
theorem st_holders : valV (stK l uv) (Sum.inr "holders" : Key) = some (.ref l.hd) := (valV_neg k_kh).trans (valV_pos rfl)
theorem st_words : valV (stK l uv) (Sum.inr "words" : Key) = some (.ref l.w) := (valV_neg k_kw).trans ((valV_neg k_hw).trans (valV_pos rfl))
theorem st_used : valV (stK l uv) (Sum.inr "used" : Key) = some uv := (valV_neg k_ku).trans ((valV_neg k_hu).trans ((valV_neg k_wu).trans (valV_pos rfl)))
theorem st_put {v : V} : putK (stK l uv) (Sum.inr "used" : Key) v = stK l v := by
  unfold putK
  rw [if_pos (by rw [valV_any, st_used]; rfl)]
  show [_, _, _, _] = stK l v
  dsimp only
  rw [if_neg k_ku, if_neg k_hu, if_neg k_wu, if_pos rfl]
  rfl
end
/-- the dict of rights -/
def hdK (l : Loc) : List (Key × V) := l.nms.map fun n => (Sum.inr n, .ref (l.ha n))
theorem hd_look {l : Loc} : ∀ {ns : List Str} {p : Str}, p ∈ ns → valV (ns.map fun n => ((Sum.inr n : Key), V.ref (l.ha n))) (Sum.inr p) = some (.ref (l.ha p))
  | [], _, h => by cases h
  | a :: r, p, h => by
    rw [List.map_cons]
    by_cases e : a = p
    · subst e
      exact valV_pos rfl
    · rw [valV_neg (key_ne e)]
      rcases List.mem_cons.mp h with h | h
      · exact absurd h.symm e
      · exact hd_look h
def kd (b : Bool) : Str := if b then "lock" else "open"
def WordsAt (H : Hp) (as : List Addr) (ws : List (Bool × Int × Str)) : Prop := Paired (fun a x => H a = some (.tup [.str (kd x.1), .int x.2.1, .str x.2.2])) as ws
structure Rep (z : Adr) (H : Hp) (l : Loc) (m : M Str) : Prop where
  st : ∃ uv, H l.S = some (.dK (stK l uv)) ∧ Opt H uv m.us
  kp : KeepAt z.C H l.k m.t m.sh m.op
  hd : H l.hd = some (.dK (hdK l))
  ho : ∀ n ∈ l.nms, HoldAt z.D H (l.ha n) (m.g n) (m.r n)
  ww : ∃ as : List Addr, H l.w = some (.lst (as.map V.ref)) ∧ WordsAt H as m.ws
/-- what a deed may change -/
def chg (l : Loc) : List Addr := l.S :: l.k :: l.w :: l.nms.map l.ha
section
variable {z : Adr} {H H' : Hp} {l : Loc} {m : M Str}
theorem WordsAt.fr {c : List Addr} {as : List Addr} {ws : List (Bool × Int × Str)} (x : WordsAt H as ws) (f : Fr H H' c) (hc : ∀ a ∈ c, ∀ xs, H a ≠ some (.tup xs)) : WordsAt H' as ws := Paired.mapP x fun a _ h => f a _ h fun q => hc a q _ h
theorem KeepAt.fr {C k : Addr} {t : Int} {sh : Option Str} {op : Bool} {c : List Addr} (x : KeepAt C H k t sh op) (f : Fr H H' c) (hk : k ∉ c) (hc : ∀ a ∈ c, ∀ xs, H a ≠ some (.tup xs)) : KeepAt C H' k t sh op := by
  obtain ⟨dx, v, e, o⟩ := x
  exact ⟨dx, v, f _ _ e hk, o.fr f hc⟩
theorem HoldAt.fr {D h : Addr} {g : Int} {r : Option Int} {c : List Addr} (x : HoldAt D H h g r) (f : Fr H H' c) (hk : h ∉ c) (hc : ∀ a ∈ c, ∀ xs, H a ≠ some (.tup xs)) : HoldAt D H' h g r := by
  obtain ⟨dx, v, n, e, o⟩ := x
  exact ⟨dx, v, n, f _ _ e hk, o.fr f hc⟩
theorem one_tup {a : Addr} {o : HO} (h : H a = some o) (ho : ∀ xs, o ≠ .tup xs) : ∀ b ∈ [a], ∀ xs, H b ≠ some (.tup xs) := fun b hb xs e => by
  rw [List.mem_singleton.mp hb, h] at e
  exact ho xs (Option.some.inj e)
theorem not_one {a b : Addr} (h : b ≠ a) : b ∉ [a] := fun z => h (List.mem_singleton.mp z)
theorem Rep.same (R : Rep z H l m) (f : Same H H') : Rep z H' l m := by
  obtain ⟨⟨uv, hS, ho⟩, kp, hd, hh, as, hw, wa⟩ := R
  exact ⟨⟨uv, f _ _ hS, ho.same f⟩, kp.same f, f _ _ hd, fun n hn => (hh n hn).same f, as, f _ _ hw, wa.fr (c := []) (Fr.same f) fun _ q => absurd q (by simp)⟩
/-- a change elsewhere -/
theorem Rep.fr {c : List Addr} (R : Rep z H l m) (f : Fr H H' c) (hS : l.S ∉ c) (hk : l.k ∉ c) (hh : l.hd ∉ c) (hw : l.w ∉ c) (hn : ∀ n ∈ l.nms, l.ha n ∉ c) (hc : ∀ a ∈ c, ∀ xs, H a ≠ some (.tup xs)) : Rep z H' l m := by
  obtain ⟨⟨uv, eS, ho⟩, kp, hd, ha, as, ew, wa⟩ := R
  exact ⟨⟨uv, f _ _ eS hS, ho.fr f hc⟩, kp.fr f hk hc, f _ _ hd hh, fun n q => (ha n q).fr f (hn n q) hc, as, f _ _ ew hw, wa.fr f hc⟩
/-- the lock changes -/
theorem Rep.keep {t : Int} {sh : Option Str} {op : Bool} (R : Rep z H l m) (s : Sta l) (hk : KeepAt z.C H' l.k t sh op) (f : Fr H H' [l.k]) : Rep z H' l { m with t := t, sh := sh, op := op } := by
  obtain ⟨⟨uv, eS, ho⟩, ⟨dx, v, ek, eo⟩, hd, ha, as, ew, wa⟩ := R
  have hc := one_tup ek (fun xs e => by cases e)
  exact ⟨⟨uv, f _ _ eS (not_one (ne_of eS ek (by intro q; cases q))), ho.fr f hc⟩, hk, f _ _ hd (not_one (ne_of hd ek (by intro q; cases q))), fun n q => (ha n q).fr f (not_one (s.kn n q)) hc, as, f _ _ ew (not_one (ne_of ew ek (by intro q; cases q))), wa.fr f hc⟩
/-- a right changes -/
theorem Rep.hold {p : Str} {g : Int} {r : Option Int} (R : Rep z H l m) (s : Sta l) (hp : p ∈ l.nms) (hh : HoldAt z.D H' (l.ha p) g r) (f : Fr H H' [l.ha p]) : Rep z H' l { m with g := fset m.g p g, r := fset m.r p r } := by
  obtain ⟨⟨uv, eS, ho⟩, ⟨dx, v, ek, eo⟩, hd, ha, as, ew, wa⟩ := R
  obtain ⟨dy, vy, ny, eh, oh⟩ := ha p hp
  have hc := one_tup eh (fun xs e => by cases e)
  refine ⟨⟨uv, f _ _ eS (not_one (ne_of eS eh (by intro q; cases q))), ho.fr f hc⟩, ⟨dx, v, f _ _ ek (not_one (s.kn p hp).symm), eo.fr f hc⟩, f _ _ hd (not_one (ne_of hd eh (by intro q; cases q))), fun n q => ?_, as, f _ _ ew (not_one (ne_of ew eh (by intro q; cases q))), wa.fr f hc⟩
  show HoldAt z.D H' (l.ha n) (fset m.g p g n) (fset m.r p r n)
  by_cases e : n = p
  · rw [e, fset_same, fset_same]
    exact hh
  · rw [fset_ne e, fset_ne e]
    exact (ha n q).fr f (not_one fun x => e (s.inj n q p hp x)) hc
/-- what is in use changes -/
theorem Rep.used {uv : V} {us : Option (Int × Str)} (R : Rep z H l m) (s : Sta l) (hS : H' l.S = some (.dK (stK l uv))) (ho : Opt H' uv us) (f : Fr H H' [l.S]) : Rep z H' l { m with us := us } := by
  obtain ⟨⟨uv0, eS, ho0⟩, kp, hd, ha, as, ew, wa⟩ := R
  have hc := one_tup eS (fun xs e => by cases e)
  have kp' := kp
  obtain ⟨dx, v, ek, eo⟩ := kp
  exact ⟨⟨uv, hS, ho⟩, kp'.fr f (not_one (ne_of ek eS (by intro q; cases q))) hc, f _ _ hd (not_one s.sh.symm), fun n q => (ha n q).fr f (not_one (by obtain ⟨_, _, _, eh, _⟩ := ha n q; exact ne_of eh eS (by intro q; cases q))) hc, as, f _ _ ew (not_one (ne_of ew eS (by intro q; cases q))), wa.fr f hc⟩
/-- a word is said -/
theorem Rep.word {as : List Addr} {a : Addr} {x : Bool × Int × Str} (R : Rep z H l m) (s : Sta l) (e : H l.w = some (.lst (as.map V.ref))) (wa : WordsAt H as m.ws) (hw : H' l.w = some (.lst (as.map V.ref ++ [.ref a])))
    (ht : H' a = some (.tup [.str (kd x.1), .int x.2.1, .str x.2.2])) (f : Fr H H' [l.w]) : Rep z H' l { m with ws := m.ws ++ [x] } := by
  obtain ⟨⟨uv0, eS, ho0⟩, kp, hd, ha, _⟩ := R
  have hc := one_tup e (fun xs e => by cases e)
  have kp' := kp
  obtain ⟨dx, v, ek, eo⟩ := kp
  refine ⟨⟨uv0, f _ _ eS (not_one (ne_of eS e (by intro q; cases q))), ho0.fr f hc⟩, kp'.fr f (not_one (ne_of ek e (by intro q; cases q))) hc, f _ _ hd (not_one (ne_of hd e (by intro q; cases q))), fun n q => (ha n q).fr f (not_one (by obtain ⟨_, _, _, eh, _⟩ := ha n q; exact ne_of eh e (by intro q; cases q))) hc, as ++ [a], ?_, ?_⟩
  · rw [hw, List.map_append]
    rfl
  · exact Paired.snoc (wa.fr f hc) ht
/-- nothing that may change is a tuple -/
theorem Rep.chg_tup (R : Rep z H l m) : ∀ a ∈ chg l, ∀ xs, H a ≠ some (.tup xs) := fun a ha xs e => by
  obtain ⟨⟨uv, eS, _⟩, ⟨dx, v, ek, _⟩, hd, hh, as, ew, _⟩ := R
  rcases List.mem_cons.mp ha with h | h
  · rw [h, eS] at e; cases e
  rcases List.mem_cons.mp h with h | h
  · rw [h, ek] at e; cases e
  rcases List.mem_cons.mp h with h | h
  · rw [h, ew] at e; cases e
  obtain ⟨n, hn, rfl⟩ := List.mem_map.mp h
  obtain ⟨_, _, _, eh, _⟩ := hh n hn
  rw [eh] at e; cases e
theorem chg_S : ∀ x ∈ [l.S], x ∈ chg l := fun x h => by rw [List.mem_singleton.mp h]; exact List.mem_cons_self
theorem chg_k : ∀ x ∈ [l.k], x ∈ chg l := fun x h => by rw [List.mem_singleton.mp h]; exact List.mem_cons_of_mem _ List.mem_cons_self
theorem chg_w : ∀ x ∈ [l.w], x ∈ chg l := fun x h => by rw [List.mem_singleton.mp h]; exact List.mem_cons_of_mem _ (List.mem_cons_of_mem _ List.mem_cons_self)
theorem chg_h {p : Str} (hp : p ∈ l.nms) : ∀ x ∈ [l.ha p], x ∈ chg l := fun x h => by rw [List.mem_singleton.mp h]; exact List.mem_cons_of_mem _ (List.mem_cons_of_mem _ (List.mem_cons_of_mem _ (List.mem_map.mpr ⟨p, hp, rfl⟩)))
end
end K23

/-! ### a deed that is tried; a word that comes -/
namespace K23
open PySem PySem.Spec PyProof.Rows L2 K23x
section
variable {P : Program} {w : World} {K : PySem.W.Frag} {mg : Str → Option Value} {base : Heap} {z : Adr}
def spTried (z : Adr) : Sp := fun vs H Q _ => ∃ (k h : Addr) (way place : Str) (t : Int) (sh : Option Str) (op : Bool) (g : Int) (r : Option Int), vs = [.ref k, .ref h, .str way, .str place] ∧ KeepAt z.C H k t sh op ∧ HoldAt z.D H h g r ∧ (op = true → sh ≠ none) ∧
  (∀ H', Same H H' → Q .non H') ∧
  (way = "lock" → sh = none → ∀ H', KeepAt z.C H' k (t + 1) (some place) false → Fr H H' [k] → Q (.int (t + 1)) H') ∧
  ((way = "use" ∨ way = "give") → ∀ n, r = some n → ∀ a H', H' a = some (.tup [.int n, .str "home"]) → HoldAt z.D H' h g none → Fr H H' [h] → Q (.ref a) H') ∧
  (¬ way = "lock" → ¬ way = "use" → ¬ way = "give" → op = true → ∀ H', KeepAt z.C H' k t none false → Fr H H' [k] → Q (.bl true) H')
theorem scTried : FnScope ["_law_keeper", "_law_holder", "_law_way", "_law_place"] ["_law_keeper", "_law_holder", "_law_way", "_law_place"] (defScope sTried) := ⟨rfl, rfl, rfl, by decide +kernel, rfl, by decide +kernel, by decide +kernel⟩

/-- what is wished of an exception whatever the slots are -/
abbrev EW (W : WX) : XK := fun cls d H => ∀ σ, W cls d σ H
abbrev tWay (s : Str) : TT := tTest (tOp rEq (tVar 2) (tC (.str s)))
abbrev tTried (z : Adr) (W : WX) : TS := tSeq (tIfS (tWay "lock") (tRet (tMeth z.C "lock" (spLock z) [] (EW W) (tVar 0) (tCons (tVar 3) tNil))) tNext)
  (tSeq (tIfS (tWay "use") (tRet (tMeth z.D "use" (spUse z) [] (EW W) (tVar 1) tNil)) tNext)
  (tSeq (tIfS (tWay "give") (tRet (tMeth z.D "give" (spUse z) [] (EW W) (tVar 1) tNil)) tNext)
  (tDrop (tMeth z.C "unlock" (spUnlock z) [] (EW W) (tVar 0) tNil))))
theorem dec_str {a b : Str} (h : a = b) : decide (V.str a = V.str b) = true := by rw [h]; exact decide_eq_true rfl
theorem dec_strn {a b : Str} (h : ¬ a = b) : decide (V.str a = V.str b) = false := decide_eq_false fun e => h (V.str.inj e)
theorem pr_tried {f : Addr} (F : FunB K "_law_tried" "_law_tried" sTried f ["_law_keeper", "_law_holder", "_law_way", "_law_place"]) (T : Txt K mg z) (FL : Prm P w K mg base (L2.CX P w) 3 z.kLock ["self", "to"] (spLock z)) (FU : Prm P w K mg base (L2.CX P w) 3 z.hUse ["self"] (spUse z))
    (FG : Prm P w K mg base (L2.CX P w) 4 z.hGive ["self"] (spUse z)) (FN : Prm P w K mg base (L2.CX P w) 3 z.kUnlock ["self"] (spUnlock z)) :
    Prm P w K mg base CX0 5 f ["_law_keeper", "_law_holder", "_law_way", "_law_place"] (spTried z) := by
  obtain ⟨fd, F, b⟩ := F
  obtain ⟨fdL, GL, bL⟩ := FL
  obtain ⟨fdU, GU, bU⟩ := FU
  obtain ⟨fdG, GG, bG⟩ := FG
  obtain ⟨fdN, GN, bN⟩ := FN
  refine ⟨fd, F.ok scTried (fun vs H Q E h => ?_) (fun cdv A outer s H vs Q E hr h => ?_), b⟩
  · obtain ⟨k, h, way, place, t, sh, op, g, r, rfl, _⟩ := h
    rfl
  · obtain ⟨k, h, way, place, t, sh, op, g, r, rfl, hk, hh, os, q0, q1, q2, q3⟩ := h
    have hr3 : Room 3 _ := hr.mono (by decide)
    refine ⟨_, pss_cons (ps_try_three (tb := tTried z) (ts := fun _ _ _ => tRet (tC .non)) rfl rfl (by rfl) T.oSh.gC (by rfl) T.oNS.gC (by rfl) T.oNR.gC
        (fun W pn xe tk _ => pss_cons (ps_if (pt_cmpR op_eq (pv 2) pe_str (nomark _)) (pss_one (ps_ret (pe_meth (pv 0) T.clC T.mLock GL hr3 bL .nil (passes_call tk (fun _ _ σ _ h => h σ)) (pa_cons (pv 3) pa_nil)))) pss_nil)
          (pss_cons (ps_if (pt_cmpR op_eq (pv 2) pe_str (nomark _)) (pss_one (ps_ret (pe_meth0 (pv 1) T.clD T.mUse GU hr3 bU .nil (passes_call tk (fun _ _ σ _ h => h σ))))) pss_nil)
          (pss_cons (ps_if (pt_cmpR op_eq (pv 2) pe_str (nomark _)) (pss_one (ps_ret (pe_meth0 (pv 1) T.clD T.mGive GG hr bG .nil (passes_call tk (fun _ _ σ _ h => h σ))))) pss_nil)
          (pss_one (ps_expr (pe_meth0 (pv 0) T.clC T.mUnlock GN hr3 bN .nil (passes_call tk (fun _ _ σ _ h => h σ))))))))
        (fun a oe cls d pn hz hf => pss_one (ps_ret pe_non)))
      (pss_one (ps_ret pe_bl)), ?_⟩
    obtain ⟨dx, v, ek, eo⟩ := id hk
    obtain ⟨dy, u, n0, eh, eu⟩ := id hh
    have noK : ∀ {m : Str}, ¬ m = "kept_times" → ¬ m = "kept_shut" → ¬ m = "kept_open" → (kf t v op).lookup m = none := kf_no
    have noH : ∀ {m : Str}, ¬ m = "kept_greatest" → ¬ m = "kept_right" → ¬ m = "kept_note" → (hf g u n0).lookup m = none := hf_no
    -- way == 'lock'
    refine ⟨_, rfl, rfl, _, rfl, ?_⟩
    by_cases c1 : way = "lock"
    · rw [dec_str c1]
      refine iteT ?_
      exact ⟨_, rfl, k, dx, _, rfl, ek, noK (by decide +kernel) (by decide +kernel) (by decide +kernel), _, rfl, k, place, t, sh, op, rfl, hk, fun e H' => q1 c1 e H', fun _ H' d f σ => ⟨T.xSh, fun _ _ => q0 H' f⟩⟩
    rw [dec_strn c1]
    refine iteF ?_
    -- way == 'use'
    refine ⟨_, rfl, rfl, _, rfl, ?_⟩
    by_cases c2 : way = "use"
    · rw [dec_str c2]
      refine iteT ?_
      exact ⟨_, rfl, h, dy, _, rfl, eh, noH (by decide +kernel) (by decide +kernel) (by decide +kernel), h, g, r, rfl, hh, q2 (.inl c2), fun _ H' d f σ => ⟨T.xNR, fun _ _ => q0 H' f⟩⟩
    rw [dec_strn c2]
    refine iteF ?_
    -- way == 'give'
    refine ⟨_, rfl, rfl, _, rfl, ?_⟩
    by_cases c3 : way = "give"
    · rw [dec_str c3]
      refine iteT ?_
      exact ⟨_, rfl, h, dy, _, rfl, eh, noH (by decide +kernel) (by decide +kernel) (by decide +kernel), h, g, r, rfl, hh, q2 (.inr c3), fun _ H' d f σ => ⟨T.xNR, fun _ _ => q0 H' f⟩⟩
    rw [dec_strn c3]
    refine iteF ?_
    refine ⟨_, rfl, k, dx, _, rfl, ek, noK (by decide +kernel) (by decide +kernel) (by decide +kernel), k, t, sh, op, rfl, hk, os, q3 c1 c2 c3, fun _ H' d c hc f σ => ?_⟩
    rcases hc with rfl | rfl
    · exact ⟨T.xNS, fun _ _ => q0 H' f⟩
    · exact ⟨T.xNR, fun _ _ => q0 H' f⟩
end
end K23

namespace K23
open PySem PySem.Spec PyProof.Rows L2 K23x
section
variable {P : Program} {w : World} {K : PySem.W.Frag} {mg : Str → Option Value} {base : Heap} {z : Adr}
def spCome (z : Adr) : Sp := fun vs H Q _ => ∃ (l : Loc) (m : M Str) (j : Nat) (x : Bool × Int × Str), vs = [.ref l.S, .int j] ∧ Sta l ∧ Rep z H l m ∧ Ok l.nms m ∧ m.t ≤ 1000 ∧ m.ws[j]? = some x ∧
  ∀ H', Rep z H' l (comeM m x) → Fr H H' (chg l) → Q (.bl true) H'
theorem words_at {H : Hp} {as : List Addr} {ws : List (Bool × Int × Str)} (x : WordsAt H as ws) {j : Nat} {y : Bool × Int × Str} (h : ws[j]? = some y) : ∃ a, as[j]? = some a ∧ H a = some (.tup [.str (kd y.1), .int y.2.1, .str y.2.2]) := by
  induction x generalizing j with
  | nil => simp at h
  | @cons a b l1 l2 hab r ih =>
    cases j with
    | zero =>
      have e : b = y := by simpa using h
      subst e
      exact ⟨a, rfl, hab⟩
    | succ j => exact ih (by simpa using h)
theorem words_len {H : Hp} {as : List Addr} {ws : List (Bool × Int × Str)} (x : WordsAt H as ws) : as.length = ws.length := Paired.length x
theorem kd_ne : ¬ ("lock" : Str) = "open" := by decide +kernel
theorem get_keeper {H : Hp} {l : Loc} {uv : V} (e : H l.S = some (.dK (stK l uv))) : DGet H l.S (.str "keeper") (some (.ref l.k)) := by
  have h := DGet.k (k := (Sum.inr ("keeper" : Str) : Key)) e
  rw [st_keeper] at h
  exact h
theorem get_holders {H : Hp} {l : Loc} {uv : V} (e : H l.S = some (.dK (stK l uv))) : DGet H l.S (.str "holders") (some (.ref l.hd)) := by
  have h := DGet.k (k := (Sum.inr ("holders" : Str) : Key)) e
  rw [st_holders] at h
  exact h
theorem get_words {H : Hp} {l : Loc} {uv : V} (e : H l.S = some (.dK (stK l uv))) : DGet H l.S (.str "words") (some (.ref l.w)) := by
  have h := DGet.k (k := (Sum.inr ("words" : Str) : Key)) e
  rw [st_words] at h
  exact h
theorem get_used {H : Hp} {l : Loc} {uv : V} (e : H l.S = some (.dK (stK l uv))) : DGet H l.S (.str "used") (some uv) := by
  have h := DGet.k (k := (Sum.inr ("used" : Str) : Key)) e
  rw [st_used] at h
  exact h
theorem get_h {H : Hp} {l : Loc} {p : Str} (e : H l.hd = some (.dK (hdK l))) (hp : p ∈ l.nms) : DGet H l.hd (.str p) (some (.ref (l.ha p))) := by
  have h := DGet.k (k := (Sum.inr p : Key)) e
  unfold hdK at h
  rw [hd_look hp] at h
  exact h
theorem get_bound {α : Type} {l : List α} {j : Nat} {y : α} (h : l[j]? = some y) : y ∈ l := List.mem_of_getElem? h
theorem scCome : FnScope ["_law_state", "_law_at", "_law_kind", "_law_number", "_law_place", "_law_keeper", "_law_holders", "_law_due", "_law_ahead", "_law_found"] ["_law_state", "_law_at"] (defScope sCome) := ⟨rfl, rfl, rfl, by decide +kernel, rfl, by decide +kernel, by decide +kernel⟩

theorem pr_come {f : Addr} (F : FunB K "_law_come" "_law_come" sCome f ["_law_state", "_law_at"]) (T : Txt K mg z) (FL : Prm P w K mg base CX0 1 z.kLocked ["self"] (spLocked z)) (FI : Prm P w K mg base CX0 1 z.kIsOpen ["self"] (spIsOpen z))
    (FO : Prm P w K mg base CX0 3 z.kOpens ["self", "number"] (spOpens z)) (FS : Prm P w K mg base CX0 1 z.hSeen ["self"] (spSeen z)) (FG : Prm P w K mg base CX0 2 z.hGot ["self", "number", "place"] (spGot z)) :
    Prm P w K mg base CX0 4 f ["_law_state", "_law_at"] (spCome z) := by
  obtain ⟨fd, F, b⟩ := F
  obtain ⟨fdL, GL, bL⟩ := FL
  obtain ⟨fdI, GI, bI⟩ := FI
  obtain ⟨fdO, GO, bO⟩ := FO
  obtain ⟨fdS, GS, bS⟩ := FS
  obtain ⟨fdG, GG, bG⟩ := FG
  refine ⟨fd, F.ok scCome (fun vs H Q E h => ?_) (fun cdv A outer s H vs Q E hr h => ?_), b⟩
  · obtain ⟨l, m, j, x, rfl, _⟩ := h
    rfl
  · obtain ⟨l, m, j, x, rfl, S, R, O, mt, hx, kq⟩ := h
    have hr1 : Room 1 _ := hr.mono (by decide)
    have hr2 : Room 2 _ := hr.mono (by decide)
    have hu := hu_of hr
    refine ⟨_, pss_cons (ps_asg (pe_ix ix_list (pe_dget hu (pv 0) pe_str (fun _ _ => rfl)) (pv 1) (fun _ _ => rfl)) (pg_tup rfl (pgs_cons (pg_name (i := 2) scCome.nd rfl (Or.inl rfl)) (pgs_cons (pg_name (i := 3) scCome.nd rfl (Or.inl rfl)) (pgs_cons (pg_name (i := 4) scCome.nd rfl (Or.inl rfl)) pgs_nil)))))
      (pss_cons (ps_par (i := 5) (j := 6) rfl scCome.nd rfl rfl (by decide) rfl rfl (pa_cons (pe_dget hu (pv 0) pe_str (fun _ _ => rfl)) (pa_cons (pe_dget hu (pv 0) pe_str (fun _ _ => rfl)) pa_nil)) (by rfl))
      (pss_cons (ps_if (pt_cmpR op_eq (pv 2) pe_str (nomark _))
        (pss_cons (ps_set (i := 7) scCome.nd rfl (Or.inl rfl) (pe_and (pe_cmp (pc_notN (pe_meth0 (pv 5) T.clC T.mLocked GL hr1 bL .nil pass0)))
            (pe_and (pe_cmpR op_eq (pe_ix ix_tup (pe_meth0 (pv 5) T.clC T.mLocked GL hr1 bL .nil pass0) pe_int (fun _ _ => rfl)) (pv 3) (nomark _)) (pe_one (pe_not (pe_meth0 (pv 5) T.clC T.mIsOpen GI hr1 bI .nil pass0))))))
        (pss_one (ps_ret (pe_cmpR op_eq (pe_meth (pv 5) T.clC T.mOpens GO hr bO .nil pass0 (pa_cons (pv 3) pa_nil)) (pv 7) (nomark _))))) pss_nil)
      (pss_cons (ps_set (i := 8) scCome.nd rfl (Or.inl rfl) (pe_meth0 (pe_dget hu (pv 6) (pv 4) (fun _ _ => rfl)) T.clD T.mSeen GS hr1 bS .nil pass0))
      (pss_cons (ps_set (i := 9) scCome.nd rfl (Or.inl rfl) (pe_meth (pe_dget hu (pv 6) (pv 4) (fun _ _ => rfl)) T.clD T.mGot GG hr2 bG .nil pass0 (pa_cons (pv 3) (pa_cons pe_str pa_nil))))
      (pss_one (ps_ret (pe_cmpR op_eq (pv 9) (pe_cmpR op_gt (pv 3) (pv 8) (nomark _)) (nomark _)))))))), ?_⟩
    obtain ⟨⟨uv, eS, oU⟩, kp, ehd, hho, as, ew, wa⟩ := id R
    obtain ⟨dx, v, ek, eo⟩ := id kp
    obtain ⟨a, haj, ha⟩ := words_at wa hx
    obtain ⟨bb, n, p⟩ := x
    have hxw := get_bound hx
    -- the word
    refine ⟨_, rfl, l.S, _, rfl, get_words eS, _, rfl, l.w, _, _, _, rfl, rfl, SqL.of ew, at_of (j := j) rfl (by rw [List.getElem?_map, haj]; rfl), a, _, rfl, SqT.of ha, rfl, ?_⟩
    refine ⟨_, _, rfl, _, _, rfl, _, _, rfl, rfl, ?_⟩
    refine ⟨_, rfl, l.S, _, rfl, get_keeper eS, _, rfl, l.S, _, rfl, get_holders eS, _, _, rfl, ?_⟩
    refine ⟨_, rfl, rfl, _, rfl, ?_⟩
    have noK : ∀ {m1 : Str}, ¬ m1 = "kept_times" → ¬ m1 = "kept_shut" → ¬ m1 = "kept_open" → (kf m.t v m.op).lookup m1 = none := kf_no
    cases bb with
    | true =>
      -- a lock's word
      have e1 : decide (V.str (kd ((true, n, p) : Bool × Int × Str).1) = V.str "open") = false := dec_strn kd_ne
      rw [e1]
      refine iteF ?_
      obtain ⟨n1, n2, hp, _⟩ := O.wl n p hxw
      obtain ⟨dy, u, n0, eh, eu⟩ := id (hho p hp)
      have noH : ∀ {m1 : Str}, ¬ m1 = "kept_greatest" → ¬ m1 = "kept_right" → ¬ m1 = "kept_note" → (hf (m.g p) u n0).lookup m1 = none := hf_no
      refine ⟨_, rfl, _, rfl, l.hd, _, rfl, get_h ehd hp, l.ha p, dy, _, rfl, eh, noH (by decide +kernel) (by decide +kernel) (by decide +kernel), l.ha p, m.g p, m.r p, rfl, hho p hp, ?_⟩
      refine ⟨_, rfl, _, rfl, l.hd, _, rfl, get_h ehd hp, l.ha p, dy, _, rfl, eh, noH (by decide +kernel) (by decide +kernel) (by decide +kernel), _, rfl, l.ha p, n, m.g p, m.r p, rfl, hho p hp, n1, fun hle => ?_, fun hlt H' hH f => ?_⟩
      · refine ⟨_, rfl, _, rfl, _, rfl, n, m.g p, rfl, rfl, rfl, ?_⟩
        show Q (.bl (decide (V.bl false = V.bl (decide (m.g p < n))))) H
        rw [decide_eq_false (by omega : ¬ m.g p < n)]
        have e2 : comeM m (true, n, p) = m := by
          unfold comeM
          rw [if_pos rfl]
          unfold gotM
          exact if_neg (by show ¬ n > m.g p; omega)
        exact kq H (by rw [e2]; exact R) (Fr.same (Same.refl H))
      · refine ⟨_, rfl, _, rfl, _, rfl, n, m.g p, rfl, rfl, rfl, ?_⟩
        show Q (.bl (decide (V.bl true = V.bl (decide (m.g p < n))))) H'
        rw [decide_eq_true hlt]
        have e2 : comeM m (true, n, p) = { m with g := fset m.g p n, r := fset m.r p (some n) } := by
          unfold comeM
          rw [if_pos rfl]
          unfold gotM
          exact if_pos hlt
        exact kq H' (by rw [e2]; exact R.hold S hp hH f) (f.mono (chg_h hp))
    | false =>
      have e1 : decide (V.str (kd ((false, n, p) : Bool × Int × Str).1) = V.str "open") = true := dec_str rfl
      rw [e1]
      refine iteT ?_
      obtain ⟨n1, n2, hp, _⟩ := O.wo n p hxw
      have n3 : n ≤ 10 ^ 30 := Int.le_trans n2 (Int.le_trans mt (by decide))
      -- what follows the word that is due
      have fin : ∀ (d : Bool), d = due m n → tRet (tOp rEq (tMeth z.C "opens" (spOpens z) [] E0 (tVar 5) (tCons (tVar 3) tNil)) (tVar 7)) ⟨fun _ H' => Q .non H', Q, fun _ _ => False, fun _ _ => False⟩
          [some (.ref l.S), some (.int j), some (.str "open"), some (.int n), some (.str p), some (.ref l.k), some (.ref l.hd), some (.bl d), none, none] H := by
        rintro d rfl
        refine ⟨_, rfl, l.k, dx, _, rfl, ek, noK (by decide +kernel) (by decide +kernel) (by decide +kernel), _, rfl, l.k, n, m.t, m.sh, m.op, rfl, kp, n1, n3, fun H' hK f => ?_⟩
        refine ⟨_, rfl, rfl, ?_⟩
        have e3 : decide (V.bl (m.sh.isSome && (decide (m.t = n) && !m.op)) = V.bl (due m n)) = true := decide_eq_true rfl
        rw [e3]
        refine kq H' ?_ (f.mono chg_k)
        have e4 : comeM m (false, n, p) = { m with t := m.t, sh := m.sh, op := m.op || due m n } := by
          unfold comeM
          rw [if_neg Bool.false_ne_true]
          show openM m n = _
          unfold openM
          cases due m n with
          | true =>
            rw [if_pos rfl, Bool.or_true]
          | false =>
            rw [if_neg Bool.false_ne_true, Bool.or_false]
        rw [e4]
        exact R.keep S hK f
      refine ⟨_, rfl, l.k, dx, _, rfl, ek, noK (by decide +kernel) (by decide +kernel) (by decide +kernel), l.k, m.t, m.sh, m.op, rfl, kp, fun v1 hv1 => ?_⟩
      refine ⟨_, rfl, ?_⟩
      cases hsh : m.sh with
      | none =>
        rw [hsh] at hv1
        have hv1 : v1 = .non := hv1
        subst hv1
        refine iteF ?_
        exact fin false (by unfold due; rw [hsh]; rfl)
      | some q =>
        rw [hsh] at hv1
        obtain ⟨a1, rfl, ha1⟩ := hv1
        refine iteT ?_
        refine ⟨_, rfl, l.k, dx, _, rfl, ek, noK (by decide +kernel) (by decide +kernel) (by decide +kernel), l.k, m.t, m.sh, m.op, rfl, kp, fun v2 hv2 => ?_⟩
        rw [hsh] at hv2
        obtain ⟨a2, rfl, ha2⟩ := hv2
        refine ⟨a2, _, _, _, rfl, rfl, SqT.of ha2, rfl, _, rfl, rfl, _, rfl, ?_⟩
        have e5 : decide (V.int m.t = V.int n) = decide (m.t = n) := by rw [ini]; exact decide_eq_decide.mpr eq_comm
        rw [e5]
        cases hd : decide (m.t = n) with
        | false =>
          refine iteF ?_
          exact fin false (by unfold due; rw [hsh, hd]; rfl)
        | true =>
          refine iteT ?_
          refine ⟨_, rfl, l.k, dx, _, rfl, ek, noK (by decide +kernel) (by decide +kernel) (by decide +kernel), l.k, m.t, m.sh, m.op, rfl, kp, _, rfl, ?_⟩
          exact fin (!m.op) (by unfold due; rw [hsh, hd]; rfl)
end
end K23

/-! ### what is safe -/
namespace K23
open PySem PySem.Spec PyProof.Rows L2 K23x
/-- rights as data -/
def dat (x : Int × Str) : PyData := .tuple [.int x.1, .str x.2]
def rts (m : M Str) (ns : List Str) : List (Int × Str) := ns.filterMap fun q => (m.r q).map fun n => (n, q)
theorem rts_take {m : M Str} {ns : List Str} {i : Nat} {q : Str} (h : ns[i]? = some q) : rts m (ns.take (i + 1)) = rts m (ns.take i) ++ ((m.r q).map fun n => (n, q)).toList := by
  unfold rts
  have e : List.filterMap (fun q => (m.r q).map fun n => (n, q)) [q] = ((m.r q).map fun n => (n, q)).toList := by cases h : m.r q <;> simp [h]
  rw [List.take_add_one, h, List.filterMap_append]
  exact congrArg _ e
theorem rts_len {m : M Str} {ns : List Str} : (rts m ns).length ≤ ns.length := List.length_filterMap_le _ _
/-- the tuples at ts are these -/
def TupsAt (H : Hp) (ts : List Addr) (xs : List (Int × Str)) : Prop := Paired (fun a x => H a = some (.tup [.int x.1, .str x.2])) ts xs
theorem TupsAt.same {H H' : Hp} {ts : List Addr} {xs : List (Int × Str)} (x : TupsAt H ts xs) (f : ∀ a ys, H a = some (.tup ys) → H' a = some (.tup ys)) : TupsAt H' ts xs := Paired.mapP x fun _ _ h => f _ _ h
theorem dat_all {K : PySem.W.Frag} {H : Hp} {ts : List Addr} {xs : List (Int × Str)} (x : TupsAt H ts xs) : DpAll K H (ts.map V.ref) (xs.map dat) := by
  induction x with
  | nil => exact .nil
  | cons h _ ih => exact .cons (.tup (SqT.of h) (.cons (.int _) (.cons (.str _) .nil))) ih
theorem shaped_one {t : Int} {p : Str} (h : SO p) : SeqAt.shaped (.list [dat (t, p)]) = true := by simp [SeqAt.shaped, PyData.canLay0, PyData.canLayAll0, PyData.depth, PyData.depthAll, dat, h.ok]
theorem eqv_one {t : Int} {p : Str} : PyData.eqv (.list [dat (t, p)]) (.list [dat (t, p)]) = true := by simp [PyData.eqv, PyData.eqvAll, dat]
section
variable {P : Program} {w : World} {K : PySem.W.Frag} {mg : Str → Option Value} {base : Heap} {z : Adr}
def spSafe (z : Adr) : Sp := fun vs H Q _ => ∃ (l : Loc) (m : M Str), vs = [.ref l.S] ∧ Sta l ∧ Rep z H l m ∧ Ok l.nms m ∧ ∀ H', Same H H' → Q (.bl true) H'
abbrev nSafe : List Str := ["_law_state", "_law_lock", "_law_found", "_law_place", "_law_one"]
theorem scSafe : FnScope ["_law_state", "_law_lock", "_law_found", "_law_place", "_law_one"] ["_law_state"] (defScope sSafe) := ⟨rfl, rfl, rfl, by decide +kernel, rfl, by decide +kernel, by decide +kernel⟩

abbrev tOneRight (z : Adr) : TE := tMeth z.D "right" (spRight z) [] E0 (tVar 4) tNil
/-- the answer: whether what is held is nothing, or by the lock's own number -/
theorem safe_ret {H : Hp} {l : Loc} {m : M Str} {D : Addr} {us : List Addr} {lv : V} {σ : L2.St} {N : Ends} (S : Sta l) (O : Ok l.nms m) (h1 : σ[1]? = some (some lv)) (h2 : σ[2]? = some (some (.ref D))) (hl : Opt H lv (m.sh.map fun p => (m.t, p))) (hD : H D = some (.lst (us.map V.ref)))
    (ht : TupsAt H us (held l.nms m)) (k : ∀ H', Same H H' → N.rt (.bl true) H') :
    tRet (tOrV (tOp (rEqD K) (tVar 2) (tLst tNil)) (tAndV (tNotN (tVar 1)) (tOp (rEqD K) (tVar 2) (tLst (tCons (tTup (tCons (tOp (rIxT K) (tVar 1) (tC (.int 0))) (tCons (tOp (rIxT K) (tVar 1) (tC (.int 1))) tNil))) tNil))))) N σ H := by
  have hd : ∀ {H'}, Same H H' → Dp K H' (.ref D) (.list ((held l.nms m).map dat)) := fun {H'} f => .lst (SqL.of (f _ _ hD)) (dat_all (ht.same fun a ys e => f a _ e))
  refine ⟨_, h2, (by show 0 ≤ sizeLine; decide), fun e he => ?_⟩
  have f1 : Same H (upd H e (.lst [])) := Fr.nil ((Fr.same (Same.refl H)).upd_new he)
  rcases safe O S.nd with hh | ⟨p, hs, hh⟩
  · rw [hh] at hd
    exact ⟨_, _, hd f1, .lst (SqL.of upd_same) .nil, (by rfl), (by rfl), _, rfl, iteT (k _ f1)⟩
  · rw [hh] at hd
    rw [hs] at hl
    obtain ⟨a, rfl, ha⟩ := hl
    have sp := shaped_one (t := m.t) (S.so p (O.shn p hs))
    refine ⟨_, _, hd f1, .lst (SqL.of upd_same) .nil, sp, (by rfl), _, rfl, iteF ?_⟩
    refine ⟨_, h1, _, rfl, iteT ?_⟩
    refine ⟨_, h2, _, h1, a, _, _, _, rfl, rfl, SqT.of (f1 _ _ ha), rfl, _, h1, a, _, _, _, rfl, rfl, SqT.of (f1 _ _ ha), rfl, (by show 2 ≤ sizeLine; decide), fun t1 ht1 => ?_⟩
    have f2 := f1.trans (Fr.nil ((Fr.same (Same.refl _)).upd_new (o := .tup [.int m.t, .str p]) ht1))
    refine ⟨(by show 1 ≤ sizeLine; decide), fun t2 ht2 => ?_⟩
    have f3 := f2.trans (Fr.nil ((Fr.same (Same.refl _)).upd_new (o := .lst [.ref t1]) ht2))
    have n12 : t1 ≠ t2 := ne_of_none upd_same ht2
    refine ⟨_, _, hd f3, .lst (SqL.of upd_same) (.cons (.tup (SqT.of (by rw [upd_ne n12]; exact upd_same)) (.cons (.int m.t) (.cons (.str p) .nil))) .nil), sp, sp, ?_⟩
    have e1 : PyData.eqv (.list ([(m.t, p)].map dat)) (.list [.tuple [.int m.t, .str p]]) = true := eqv_one
    rw [e1]
    exact k _ f3
theorem pr_safe {f : Addr} (F : FunB K "_law_safe" "_law_safe" sSafe f ["_law_state"]) (T : Txt K mg z) (FL : Prm P w K mg base CX0 1 z.kLocked ["self"] (spLocked z)) (FR : Prm P w K mg base CX0 1 z.hRight ["self"] (spRight z)) :
    Prm P w K mg base CX0 2 f ["_law_state"] (spSafe z) := by
  obtain ⟨fd, F, b⟩ := F
  obtain ⟨fdL, GL, bL⟩ := FL
  obtain ⟨fdR, GR, bR⟩ := FR
  refine ⟨fd, F.ok scSafe (fun vs H Q E h => ?_) (fun cdv A outer s H vs Q E hr h => ?_), b⟩
  · obtain ⟨l, m, rfl, _⟩ := h
    rfl
  · obtain ⟨l, m, rfl, S, R, O, kq⟩ := h
    have hu := hu_of hr
    refine ⟨_, pss_cons (ps_set (i := 1) scSafe.nd rfl (Or.inl rfl) (pe_meth0 (pe_dget hu (pv 0) pe_str (fun _ _ => rfl)) T.clC T.mLocked GL hr bL .nil pass0))
      (pss_cons (ps_lock (ps_setLc (i := 2) (own := [("_law_place", 3), ("_law_one", 4)]) (g := gTup K 2 (gCons (gName 3) (gCons (gName 4) gNil))) (tt := tB (tNotN (tOneRight z))) (te := tTup (tCons (tOp (rIxT K) (tOneRight z) (tC (.int 0))) (tCons (tVar 3) tNil)))
          rfl scSafe.nd rfl rfl (sw_true rfl rfl rfl (by decide +kernel)) (pi_items (pe_dget hu (pv 0) pe_str (fun _ _ => rfl))) (blkOk_by (N := nSafe) (sc := defScope sSafe) (by decide +kernel))
          (fun _ _ _ _ _ => pg_tup rfl (pgs_cons (pg_name (i := 3) scSafe.nd rfl (Or.inl rfl)) (pgs_cons (pg_name (i := 4) scSafe.nd rfl (Or.inl rfl)) pgs_nil)))
          (fun _ _ _ _ _ => pts_one (pt_cmp (pc_notN (pe_meth0 (pv 4) T.clD T.mRight GR hr bR .nil pass0))))
          (fun _ _ _ _ _ => pe_tup (pa_cons (pe_ix ix_tup (pe_meth0 (pv 4) T.clD T.mRight GR hr bR .nil pass0) pe_int (fun _ _ => rfl)) (pa_cons (pv 3) pa_nil)))))
      (pss_cons (ps_if (pt_cmp (pc_notN (pe_dget hu (pv 0) pe_str (fun _ _ => rfl)))) (pss_one (ps_expr (pe_bm PySem.F.plainAttrs_list PySem.F.slot_list_append PySem.F.type_list_append mt_append (pv 2) (pa_cons (pe_dget hu (pv 0) pe_str (fun _ _ => rfl)) pa_nil)))) pss_nil)
      (pss_one (ps_ret (pe_or (pe_cmpR (op_eqD hr.units) (pv 2) (pe_lst pa_nil) (nomark _)) (pe_one (pe_and (pe_cmp (pc_notN (pv 1))) (pe_one (pe_cmpR (op_eqD hr.units) (pv 2)
        (pe_lst (pa_cons (pe_tup (pa_cons (pe_ix ix_tup (pv 1) pe_int (fun _ _ => rfl)) (pa_cons (pe_ix ix_tup (pv 1) pe_int (fun _ _ => rfl)) pa_nil))) pa_nil)) (nomark _)))))))))), ?_⟩
    obtain ⟨⟨uv, eS, oU⟩, kp, ehd, hho, as, ew, wa⟩ := id R
    obtain ⟨dx, v, ek, eo⟩ := id kp
    -- the lock
    refine ⟨_, rfl, l.S, _, rfl, get_keeper eS, l.k, dx, _, rfl, ek, kf_no (by decide +kernel) (by decide +kernel) (by decide +kernel), l.k, m.t, m.sh, m.op, rfl, kp, fun lv hlv => ?_⟩
    -- the rights
    refine ⟨l.hd, _, ehd, True.intro, fun od => ?_⟩
    have eS1 : upd H l.hd (.frz od (.dK (hdK l))) l.S = some (.dK (stK l uv)) := by rw [upd_ne S.sh]; exact eS
    have old : ∀ {a : Addr} {o : HO}, H a = some o → a ≠ l.hd → upd H l.hd (.frz od (.dK (hdK l))) a = some o := fun {a o} h n => by rw [upd_ne n]; exact h
    refine ⟨_, rfl, l.S, _, rfl, get_holders eS1, l.hd, od, hdK l, rfl, upd_same, fun D hD => ?_⟩
    have hlen : (hdK l).length = l.nms.length := by unfold hdK; rw [List.length_map]
    refine lc_it walk_items (fun i H' => Same (upd H l.hd (.frz od (.dK (hdK l)))) H' ∧ ∃ ts : List Addr, H' D = some (.lst (ts.map V.ref)) ∧ TupsAt H' ts (rts m (l.nms.take i))) ?_ ?_ ?_ ?_
    · exact ⟨Fr.nil ((Fr.same (Same.refl _)).upd_new hD), [], upd_same, .nil⟩
    · exact fun i H' _ p => p.1 _ _ upd_same
    · rintro i x H1 H2 hi ⟨f1, ts, hts, hta⟩ ⟨t0, x1, y1, rfl, nT, rfl, hx1, hy1⟩
      have hi2 : i < l.nms.length := by omega
      obtain ⟨nm, hnm⟩ : ∃ nm, l.nms[i]? = some nm := ⟨_, List.getElem?_eq_getElem hi2⟩
      have hmem := List.mem_of_getElem? hnm
      have hk : (hdK l)[i]? = some (Sum.inr nm, .ref (l.ha nm)) := by
        unfold hdK
        rw [List.getElem?_map, hnm]
        rfl
      have ex : x1 = .str nm := by
        have h : ((hdK l)[i]?.map fun kv => kV kv.1) = some x1 := hx1
        rw [hk] at h
        exact (Option.some.inj h).symm
      have ey : y1 = .ref (l.ha nm) := by
        have h : ((hdK l)[i]?.map Prod.snd) = some y1 := hy1
        rw [hk] at h
        exact (Option.some.inj h).symm
      subst ex ey
      have f3 : Same H1 (upd H1 t0 (.tup [.str nm, .ref (l.ha nm)])) := Fr.nil ((Fr.same (Same.refl _)).upd_new nT)
      have hold : HoldAt z.D (upd H1 t0 (.tup [.str nm, .ref (l.ha nm)])) (l.ha nm) (m.g nm) (m.r nm) := by
        obtain ⟨_, _, _, eh, _⟩ := hho nm hmem
        exact (((hho nm hmem).fr (c := [l.hd]) Fr.one (not_one (ne_of eh ehd (by intro q; cases q))) (one_tup ehd (fun xs e => by cases e))).same f1).same f3
      obtain ⟨dy, u, n0, eh, eu⟩ := id hold
      have hts3 := f3 _ _ hts
      have hta3 := hta.same (fun a ys e => f3 a _ e)
      have hnl : (hf (m.g nm) u n0).lookup ("right" : Str) = none := hf_no (by decide +kernel) (by decide +kernel) (by decide +kernel)
      have e1 := rts_take (m := m) hnm
      refine ⟨t0, _, rfl, SqT.of upd_same, rfl, _, _, rfl, _, _, rfl, rfl, rfl, ?_⟩
      refine ⟨_, rfl, l.ha nm, dy, _, rfl, eh, hnl, l.ha nm, m.g nm, m.r nm, rfl, hold, fun v1 hv1 => ⟨_, rfl, ?_⟩⟩
      cases hr1 : m.r nm with
      | none =>
        rw [hr1] at hv1 e1
        have hv1 : v1 = .non := hv1
        subst hv1
        refine iteF ⟨f1.trans f3, ts, hts3, ?_⟩
        rw [e1]
        show TupsAt _ ts (_ ++ [])
        rw [List.append_nil]
        exact hta3
      | some n =>
        rw [hr1] at hv1 e1
        obtain ⟨a1, rfl, ha1⟩ := hv1
        refine iteT ?_
        refine ⟨_, rfl, l.ha nm, dy, _, rfl, eh, hnl, l.ha nm, m.g nm, m.r nm, rfl, hold, fun v2 hv2 => ?_⟩
        rw [hr1] at hv2
        obtain ⟨a2, rfl, ha2⟩ := hv2
        refine ⟨a2, _, _, _, rfl, rfl, SqT.of ha2, rfl, _, rfl, (by show 2 ≤ sizeLine; decide), fun q hq => ?_⟩
        have f4 : Same (upd H1 t0 (.tup [.str nm, .ref (l.ha nm)])) (upd (upd H1 t0 (.tup [.str nm, .ref (l.ha nm)])) q (.tup [.int n, .str nm])) := Fr.nil ((Fr.same (Same.refl _)).upd_new hq)
        have l1 : ts.length ≤ 2 := by
          have e2 : ts.length = (rts m (l.nms.take i)).length := Paired.length hta
          have e3 : (rts m (l.nms.take i)).length ≤ (l.nms.take i).length := rts_len
          have e4 := S.ln
          rw [List.length_take] at e3
          omega
        have nDq : q ≠ D := fun e => by rw [e, hts3] at hq; cases hq
        refine ⟨_, f4 _ _ hts3, (by rw [List.length_map]; exact small1000 (by omega)), Fr.nil ((Fr.same ((f1.trans f3).trans f4)).upd_new hD), ts ++ [q], ?_, ?_⟩
        · rw [upd_same, List.map_append]
          rfl
        · rw [e1]
          refine Paired.snoc ((hta3.same (fun a ys e => f4 a _ e)).same fun a ys e => ?_) ?_
          · rw [upd_ne (ne_of e (f4 _ _ hts3) (by intro q; cases q))]
            exact e
          · rw [upd_ne nDq]
            exact upd_same
    · rintro H1 ⟨f1, ts, hts, hta⟩
      have hcut : l.nms.take (hdK l).length = l.nms := by rw [hlen]; exact List.take_length
      rw [hcut] at hta
      refine ⟨f1 _ _ upd_same, ?_⟩
      have nDh : D ≠ l.hd := fun e => by rw [e, upd_same] at hD; cases hD
      have f2 : Same H (upd H1 l.hd (.dK (hdK l))) := fun b o e => by
        by_cases c : b = l.hd
        · rw [c] at e ⊢
          rw [upd_same, ← e, ehd]
        · rw [upd_ne c]
          exact f1 b o (old e c)
      have hD0 : H D = none := by rw [upd_ne nDh] at hD; exact hD
      have hts2 : (upd H1 l.hd (.dK (hdK l))) D = some (.lst (ts.map V.ref)) := by rw [upd_ne nDh]; exact hts
      have hta2 : TupsAt (upd H1 l.hd (.dK (hdK l))) ts (rts m l.nms) := hta.same fun a ys e => by
        rw [upd_ne (ne_of e (f1 _ _ upd_same) (by intro q; cases q))]
        exact e
      generalize upd H1 l.hd (.dK (hdK l)) = H2 at f2 hts2 hta2 ⊢
      refine ⟨_, rfl, l.S, _, rfl, get_used (f2 _ _ eS), _, rfl, ?_⟩
      have oU2 := oU.same f2
      have hl2 := hlv.same f2
      cases hus : m.us with
      | none =>
        rw [hus] at oU2
        have oU2 : uv = .non := oU2
        subst oU2
        refine iteF ?_
        refine safe_ret S O rfl rfl hl2 hts2 (us := ts) ?_ fun H' f => kq H' (f2.trans f)
        have e : held l.nms m = rts m l.nms := by
          unfold held rts
          rw [hus]
          exact List.append_nil _
        rw [e]
        exact hta2
      | some x =>
        obtain ⟨n, p⟩ := x
        rw [hus] at oU2
        obtain ⟨ua, rfl, hua⟩ := oU2
        refine iteT ?_
        have l1 : ts.length ≤ 2 := by
          have e2 : ts.length = (rts m l.nms).length := Paired.length hta2
          have e3 : (rts m l.nms).length ≤ l.nms.length := rts_len
          have e4 := S.ln
          omega
        refine ⟨_, rfl, .inl ⟨rfl, _, SqL.of hts2⟩, _, rfl, l.S, _, rfl, get_used (f2 _ _ eS), D, _, _, rfl, rfl, hts2, (by rw [List.length_map]; exact small1000 (by omega)), ?_⟩
        have f5 : Same H (upd H2 D (.lst (ts.map V.ref ++ [.ref ua]))) := Fr.nil ((Fr.same f2).upd_new hD0)
        refine safe_ret S O rfl rfl (hlv.same f5) (us := ts ++ [ua]) ?_ ?_ fun H' f => kq H' (f5.trans f)
        · rw [upd_same, List.map_append]
          rfl
        · have e : held l.nms m = rts m l.nms ++ [(n, p)] := by
            unfold held rts
            rw [hus]
            rfl
          rw [e]
          have nt : ∀ {a : Addr} {ys : List V}, H2 a = some (.tup ys) → upd H2 D (.lst (ts.map V.ref ++ [.ref ua])) a = some (.tup ys) := fun {a ys} e => by
            rw [upd_ne (ne_of e hts2 (by intro q; cases q))]
            exact e
          exact Paired.snoc (hta2.same fun a ys e => nt e) (nt hua)
end
end K23

/-! ### a deed -/
namespace K23
open PySem PySem.Spec PyProof.Rows L2 K23x
theorem fset_id {α β : Type} [DecidableEq α] {f : α → β} {a : α} : fset f a (f a) = f := by
  funext x
  by_cases h : x = a
  · rw [h, fset_same]
  · rw [fset_ne h]
abbrev ways : List V := [.str "lock", .str "lock", .str "use", .str "give", .str "unlock", .str "over", .str "come", .str "come", .str "come"]
theorem ways_at {d : Int} (h0 : 0 ≤ d) (h1 : d < 9) : ∃ way : Str, atI ways d = some (.str way) := by
  obtain ⟨j, rfl⟩ : ∃ j : Nat, d = (j : Int) := ⟨d.toNat, by omega⟩
  have hj : j < 9 := by omega
  match j, hj with
  | 0, _ => exact ⟨_, rfl⟩
  | 1, _ => exact ⟨_, rfl⟩
  | 2, _ => exact ⟨_, rfl⟩
  | 3, _ => exact ⟨_, rfl⟩
  | 4, _ => exact ⟨_, rfl⟩
  | 5, _ => exact ⟨_, rfl⟩
  | 6, _ => exact ⟨_, rfl⟩
  | 7, _ => exact ⟨_, rfl⟩
  | 8, _ => exact ⟨_, rfl⟩
abbrev four : List V := [.str "lock", .str "use", .str "give", .str "unlock"]
theorem four_yes {way : Str} (h : way = "lock" ∨ way = "use" ∨ way = "give" ∨ way = "unlock") : inV (.str way) four = true := by
  unfold inV four
  rcases h with h | h | h | h <;> (subst h; simp [eqV])
theorem four_no {way : Str} (h1 : ¬ way = "lock") (h2 : ¬ way = "use") (h3 : ¬ way = "give") (h4 : ¬ way = "unlock") : inV (.str way) four = false := by
  unfold inV four
  simp only [List.any_cons, List.any_nil, eqV, Bool.or_false, Bool.or_eq_false_iff, beq_eq_false_iff_ne]
  exact ⟨fun e => h1 e.symm, fun e => h2 e.symm, fun e => h3 e.symm, fun e => h4 e.symm⟩
section
variable {P : Program} {w : World} {K : PySem.W.Frag} {mg : Str → Option Value} {base : Heap} {z : Adr}
theorem box_out {H : Hp} {l : Loc} {m : M Str} {bx : Addr} {c : Int} (hB : BoxAt H bx c) (R : Rep z H l m) (nw : bx ≠ l.w) : bx ∉ chg l := fun h => by
  obtain ⟨a, b, c, e, _⟩ := hB
  obtain ⟨⟨uv, eS, _⟩, ⟨dx, v, ek, _⟩, hd, hh, as, ew, _⟩ := R
  rcases List.mem_cons.mp h with h | h
  · rw [h, eS] at e; cases e
  rcases List.mem_cons.mp h with h | h
  · rw [h, ek] at e; cases e
  rcases List.mem_cons.mp h with h | h
  · exact nw h
  obtain ⟨n, hn, rfl⟩ := List.mem_map.mp h
  obtain ⟨_, _, _, eh, _⟩ := hh n hn
  rw [eh] at e; cases e
theorem Rep.box {H H' : Hp} {l : Loc} {m : M Str} {bx : Addr} {c : Int} (R : Rep z H l m) (hB : BoxAt H bx c) (nw : bx ≠ l.w) (f : Fr H H' [bx]) : Rep z H' l m := by
  have o := box_out hB R nw
  obtain ⟨a, b, c, e, _⟩ := hB
  have n : ∀ x ∈ chg l, x ∉ [bx] := fun x hx h => o (by rw [← List.mem_singleton.mp h]; exact hx)
  refine R.fr f (n _ (chg_S _ List.mem_cons_self)) (n _ (chg_k _ List.mem_cons_self)) (not_one fun h => ?_) (not_one nw.symm) (fun p hp => n _ (chg_h hp _ List.mem_cons_self)) (one_tup e fun xs h => by cases h)
  have hd := R.hd
  rw [h, e] at hd
  cases hd
/-- what a deed leaves -/
structure Done (z : Adr) (H0 H : Hp) (l : Loc) (m : M Str) (bx : Addr) (c : Int) (t B : Nat) : Prop where
  rep : Rep z H l m
  box : BoxAt H bx c
  tim : m.t ≤ (t : Int)
  wds : m.ws.length ≤ B
  fr : Fr H0 H (bx :: chg l)
theorem Done.step {H0 H H' : Hp} {l : Loc} {m m' : M Str} {bx : Addr} {c : Int} {t t' B B' : Nat} {x : Addr} (d : Done z H0 H l m bx c t B) (nw : bx ≠ l.w) (R : Rep z H' l m') (ht : m'.t ≤ (t' : Int)) (hB : m'.ws.length ≤ B') (f : Fr H H' [x]) (hx : ∀ y ∈ [x], y ∈ chg l) : Done z H0 H' l m' bx c t' B' := by
  refine ⟨R, d.box.fr f fun h => ?_, ht, hB, d.fr.trans (f.mono fun y hy => List.mem_cons_of_mem _ (hx y hy))⟩
  exact box_out d.box d.rep nw (hx _ h)
theorem Done.same {H0 H H' : Hp} {l : Loc} {m : M Str} {bx : Addr} {c : Int} {t B : Nat} (d : Done z H0 H l m bx c t B) (f : Same H H') : Done z H0 H' l m bx c t B := ⟨d.rep.same f, d.box.same f, d.tim, d.wds, d.fr.trans (Fr.same f)⟩
theorem Done.mono {H0 H : Hp} {l : Loc} {m : M Str} {bx : Addr} {c : Int} {t t' B B' : Nat} (d : Done z H0 H l m bx c t B) (ht : t ≤ t') (hB : B ≤ B') : Done z H0 H l m bx c t' B' := ⟨d.rep, d.box, by have := d.tim; omega, by have := d.wds; omega, d.fr⟩
theorem put_used {H : Hp} {l : Loc} {uv v : V} (e : H l.S = some (.dK (stK l uv))) : DPut H l.S (.str "used") v (upd H l.S (.dK (stK l v))) := by
  have h := DPut.k (k := (Sum.inr ("used" : Str) : Key)) (v := v) e (by show 4 < sizeLine; decide)
  rw [st_put] at h
  exact h
theorem way_no {σ : L2.St} {H : Hp} {Q : Bool → Hp → Prop} {way s : Str} {fv : V} (h7 : σ[7]? = some (some (.str way))) (h11 : σ[11]? = some (some fv)) (h : ¬ way = s ∨ fv = .non) (q : Q false H) : tAnd (tTest (tOp rEq (tVar 7) (tC (.str s)))) (tB (tNotN (tVar 11))) σ H Q := by
  refine ⟨_, h7, rfl, _, rfl, ?_⟩
  by_cases c : way = s
  · rw [dec_str c]
    refine iteT ⟨_, h11, _, rfl, ?_⟩
    rcases h with h | h
    · exact absurd c h
    · rw [h]
      exact q
  · rw [dec_strn c]
    exact iteF q
theorem way_yes {σ : L2.St} {H : Hp} {Q : Bool → Hp → Prop} {way s : Str} {fv : V} (h7 : σ[7]? = some (some (.str way))) (h11 : σ[11]? = some (some fv)) (h : way = s) (hf : fv ≠ .non) (q : Q true H) : tAnd (tTest (tOp rEq (tVar 7) (tC (.str s)))) (tB (tNotN (tVar 11))) σ H Q := by
  refine ⟨_, h7, rfl, _, rfl, ?_⟩
  rw [dec_str h]
  refine iteT ⟨_, h11, _, rfl, ?_⟩
  rw [decide_eq_false hf]
  exact q
def spDone (z : Adr) : Sp := fun vs H Q _ => ∃ (bx nl : Addr) (l : Loc) (m : M Str) (ns : List Str) (c : Int) (B : Nat), vs = [.ref bx, .ref l.S, .ref nl] ∧ Sta l ∧ Rep z H l m ∧ Ok l.nms m ∧ BoxAt H bx c ∧ c ≤ 900 ∧
  H nl = some (.lst (ns.map V.str)) ∧ 1 ≤ ns.length ∧ ns.length ≤ 2 ∧ (∀ x ∈ ns, x ∈ l.nms) ∧ bx ≠ l.w ∧ nl ≠ bx ∧ m.t ≤ (B : Int) ∧ m.ws.length ≤ B ∧ B ≤ 900 ∧
  ∀ m' H', Ok l.nms m' → Done z H H' l m' bx (c + 4) (B + 1) (B + 1) → Q (.bl true) H'
theorem scDone : FnScope ["_law_box_here", "_law_state", "_law_names_here", "_law_keeper", "_law_holders", "_law_words", "_law_place", "_law_way", "_law_at", "_law_end", "_law_used", "_law_found"] ["_law_box_here", "_law_state", "_law_names_here"] (defScope sDone) := ⟨rfl, rfl, rfl, by decide +kernel, rfl, by decide +kernel, by decide +kernel⟩

theorem pr_done {f : Addr} (F : FunB K "_law_done" "_law_done" sDone f ["_law_box_here", "_law_state", "_law_names_here"]) (T : Txt K mg z) (FT : Prm P w K mg base CX0 1 z.lTake ["_law_box_here", "_law_many"] spTake) (FC : Prm P w K mg base CX0 4 z.lCome ["_law_state", "_law_at"] (spCome z))
    (FE : Prm P w K mg base CX0 3 z.kEnded ["self", "number"] (spEnded z)) (FN : Prm P w K mg base CX0 1 z.hNote ["self", "number", "place"] (spNote z)) (FR : Prm P w K mg base CX0 5 z.lTried ["_law_keeper", "_law_holder", "_law_way", "_law_place"] (spTried z)) :
    Prm P w K mg base CX0 6 f ["_law_box_here", "_law_state", "_law_names_here"] (spDone z) := by
  obtain ⟨fd, F, b⟩ := F
  obtain ⟨fdT, GT, bT⟩ := FT
  obtain ⟨fdC, GC, bC⟩ := FC
  obtain ⟨fdE, GE, bE⟩ := FE
  obtain ⟨fdN, GN, bN⟩ := FN
  obtain ⟨fdR, GR, bR⟩ := FR
  refine ⟨fd, F.ok scDone (fun vs H Q E h => ?_) (fun cdv A outer s H vs Q E hr h => ?_), b⟩
  · obtain ⟨bx, nl, l, m, ns, c, B, rfl, _⟩ := h
    rfl
  · obtain ⟨bx, nl, l, m, ns, c, B, rfl, S, R, O, hB, hc, hn, ns1, ns2, hin, nw, nnb, mt, mw, hBB, kq⟩ := h
    have hr1 : Room 1 _ := hr.mono (by decide)
    have hr3 : Room 3 _ := hr.mono (by decide)
    have hr4 : Room 4 _ := hr.mono (by decide)
    have hu := hu_of hr
    refine ⟨_, pss_cons (ps_par3 (i := 3) (j := 4) (l := 5) rfl scDone.nd rfl rfl rfl (by decide) (by decide) (by decide) rfl rfl rfl (pa_cons (pe_dget hu (pv 1) pe_str (fun _ _ => rfl)) (pa_cons (pe_dget hu (pv 1) pe_str (fun _ _ => rfl)) (pa_cons (pe_dget hu (pv 1) pe_str (fun _ _ => rfl)) pa_nil))) (by rfl))
      (pss_cons (ps_set (i := 6) scDone.nd rfl (Or.inl rfl) (pe_ix ix_list (pv 2) (pe_call GT hr1 (by rfl) T.mgTake T.kTake bT .nil pass0 (pa_cons (pv 0) (pa_cons (pe_callB call_len_seq (by rfl) T.bLen PySem.boot_len (pa_cons (pv 2) pa_nil)) pa_nil))) (fun _ _ => rfl)))
      (pss_cons (ps_set (i := 7) scDone.nd rfl (Or.inl rfl) (pe_ix ix_list (pe_lst (pa_cons pe_str (pa_cons pe_str (pa_cons pe_str (pa_cons pe_str (pa_cons pe_str (pa_cons pe_str (pa_cons pe_str (pa_cons pe_str (pa_cons pe_str pa_nil)))))))))) (pe_call GT hr1 (by rfl) T.mgTake T.kTake bT .nil pass0 (pa_cons (pv 0) (pa_cons pe_int pa_nil))) (fun _ _ => rfl)))
      (pss_cons (ps_set (i := 8) scDone.nd rfl (Or.inl rfl) (pe_call GT hr1 (by rfl) T.mgTake T.kTake bT .nil pass0 (pa_cons (pv 0) (pa_cons (pe_op op_add (pe_callB call_len_seq (by rfl) T.bLen PySem.boot_len (pa_cons (pv 5) pa_nil)) pe_int) pa_nil))))
      (pss_cons (ps_set (i := 9) scDone.nd rfl (Or.inl rfl) (pe_call GT hr1 (by rfl) T.mgTake T.kTake bT .nil pass0 (pa_cons (pv 0) (pa_cons pe_int pa_nil))))
      (Evl.pss_cut (ps_if (PW.pt (pw_and (pt_cmpR op_eq (pv 7) pe_str (nomark _)) (pw_and1 (pt_cmpR op_lt (pv 8) (pe_callB call_len_seq (by rfl) T.bLen PySem.boot_len (pa_cons (pv 5) pa_nil)) (nomark _)))))
        (pss_one (ps_ret (pe_call GC hr4 (by rfl) T.mgCome T.kCome bC .nil pass0 (pa_cons (pv 1) (pa_cons (pv 8) pa_nil))))) pss_nil)
      (pss_cons (ps_set (i := 10) scDone.nd rfl (Or.inl rfl) (pe_dget hu (pv 1) pe_str (fun _ _ => rfl)))
      (Evl.pss_cut (ps_if (PW.pt (pw_and (pt_cmpR op_eq (pv 7) pe_str (nomark _)) (pw_and1 (pt_cmp (pc_notN (pv 10))))))
        (pss_cons (ps_if (pt_cmpR op_eq (pv 9) pe_int (nomark _)) (pss_one (ps_expr (pe_meth (pv 3) T.clC T.mEnded GE hr3 bE .nil pass0 (pa_cons (pe_ix ix_tup (pv 10) pe_int (fun _ _ => rfl)) pa_nil))))
          (pss_cons (ps_expr (pe_meth (pe_dget hu (pv 4) (pe_ix ix_tup (pv 10) pe_int (fun _ _ => rfl)) (fun _ _ => rfl)) T.clD T.mNote GN hr1 bN .nil pass0 (pa_cons (pe_ix ix_tup (pv 10) pe_int (fun _ _ => rfl)) (pa_cons pe_str pa_nil))))
          (pss_one (ps_expr (pe_bm PySem.F.plainAttrs_list PySem.F.slot_list_append PySem.F.type_list_append mt_append (pv 5) (pa_cons (pe_tup (pa_cons pe_str (pa_cons (pe_ix ix_tup (pv 10) pe_int (fun _ _ => rfl)) (pa_cons (pe_ix ix_tup (pv 10) pe_int (fun _ _ => rfl)) pa_nil)))) pa_nil))))))
        (pss_one (ps_dput hu (pv 1) pe_str pe_non rfl))) pss_nil)
      (Evl.pss_cut (ps_set (i := 11) scDone.nd rfl (Or.inl rfl) (pe_ifExp (pt_cmpR op_in_seq (pv 7) (pe_tup (pa_cons pe_str (pa_cons pe_str (pa_cons pe_str (pa_cons pe_str pa_nil))))) (by rfl))
        (pe_call GR hr (by rfl) T.mgTried T.kTried bR .nil pass0 (pa_cons (pv 3) (pa_cons (pe_dget hu (pv 4) (pv 6) (fun _ _ => rfl)) (pa_cons (pv 7) (pa_cons (pv 6) pa_nil))))) pe_non))
      (Evl.pss_cut (ps_if (PW.pt (pw_and (pt_cmpR op_eq (pv 7) pe_str (nomark _)) (pw_and1 (pt_cmp (pc_notN (pv 11))))))
          (pss_one (ps_expr (pe_bm PySem.F.plainAttrs_list PySem.F.slot_list_append PySem.F.type_list_append mt_append (pv 5) (pa_cons (pe_tup (pa_cons pe_str (pa_cons (pv 11) (pa_cons (pv 6) pa_nil)))) pa_nil))))
          (pss_one (ps_if (PW.pt (pw_and (pt_cmpR op_eq (pv 7) pe_str (nomark _)) (pw_and1 (pt_cmp (pc_notN (pv 11))))))
            (pss_one (ps_dput hu (pv 1) pe_str (pe_tup (pa_cons (pe_ix ix_tup (pv 11) pe_int (fun _ _ => rfl)) (pa_cons (pv 6) pa_nil))) rfl))
            (pss_one (ps_if (PW.pt (pw_and (pt_cmpR op_eq (pv 7) pe_str (nomark _)) (pw_and1 (pt_cmp (pc_notN (pv 11))))))
              (pss_one (ps_expr (pe_bm PySem.F.plainAttrs_list PySem.F.slot_list_append PySem.F.type_list_append mt_append (pv 5) (pa_cons (pe_tup (pa_cons pe_str (pa_cons (pe_ix ix_tup (pv 11) pe_int (fun _ _ => rfl)) (pa_cons (pv 6) pa_nil)))) pa_nil)))) pss_nil)))))
      (pss_one (ps_ret pe_bl))))))))))), ?_⟩
    obtain ⟨⟨uv, eS, oU⟩, kp, ehd, hho, as, ew, wa⟩ := id R
    have hlen : as.length = m.ws.length := words_len wa
    -- keeper, holders, words
    refine ⟨_, rfl, l.S, _, rfl, get_keeper eS, _, rfl, l.S, _, rfl, get_holders eS, _, rfl, l.S, _, rfl, get_words eS, _, _, _, rfl, ?_⟩
    -- place
    refine ⟨_, rfl, _, rfl, _, rfl, nl, _, rfl, .inl (SqL.of hn), bx, _, c, rfl, hB, by omega, (by rw [List.length_map]; omega), (by rw [List.length_map]; omega), fun d1 H1 d1a d1b hB1 f1 => ?_⟩
    rw [List.length_map] at d1b
    obtain ⟨j1, rfl⟩ : ∃ j : Nat, d1 = (j : Int) := ⟨d1.toNat, by omega⟩
    obtain ⟨place, hpl⟩ : ∃ pl, ns[j1]? = some pl := ⟨_, List.getElem?_eq_getElem (by omega)⟩
    have hpn : place ∈ l.nms := hin _ (List.mem_of_getElem? hpl)
    refine ⟨nl, _, _, .str place, rfl, rfl, SqL.of (f1 _ _ hn (not_one nnb)), at_of (j := j1) rfl (by rw [List.getElem?_map, hpl]; rfl), ?_⟩
    -- way
    refine ⟨(by show 9 ≤ sizeLine; decide), fun p2 hp2 => ?_⟩
    have nb2 : bx ≠ p2 := fun e => by
      obtain ⟨_, _, _, e1, _⟩ := hB1
      rw [e, hp2] at e1
      cases e1
    refine ⟨_, rfl, bx, 9, c + 1, rfl, (hB1.fr (l := [p2]) Fr.one (not_one nb2)), by omega, by decide, by decide, fun d2 H2 d2a d2b hB2 f2 => ?_⟩
    obtain ⟨way, hway⟩ := ways_at d2a d2b
    refine ⟨p2, ways, d2, _, rfl, rfl, SqL.of (f2 _ _ upd_same (not_one nb2.symm)), hway, ?_⟩
    have f12 : Fr H H2 [bx] := (f1.trans ((Fr.same (Same.refl _)).upd_new hp2)).trans f2
    have ew2 := f12 _ _ ew (not_one nw.symm)
    -- at, end
    refine ⟨_, rfl, _, rfl, l.w, _, rfl, .inl (SqL.of ew2), _, 1, rfl, rfl, bx, _, c + 1 + 1, rfl, hB2, by omega, (by rw [List.length_map]; omega), (by rw [List.length_map]; omega), fun d3 H3 d3a d3b hB3 f3 => ?_⟩
    rw [List.length_map] at d3b
    refine ⟨_, rfl, bx, 2, c + 1 + 1 + 1, rfl, hB3, by omega, by decide, by decide, fun d4 H4 d4a d4b hB4 f4 => ?_⟩
    have f14 : Fr H H4 [bx] := (f12.trans f3).trans f4
    have D4 : Done z H H4 l m bx (c + 4) B B := ⟨R.box hB nw f14, hB4.mono (by omega), mt, mw, f14.mono fun x hx => by rw [List.mem_singleton.mp hx]; exact List.mem_cons_self⟩
    clear hB1 f1 hB2 f2 hB3 f3 hB4 f4 ew2 f12
    have ew4 := f14 _ _ ew (not_one nw.symm)
    have eS4 := f14 _ _ eS (fun h => box_out hB R nw (by rw [← List.mem_singleton.mp h]; exact List.mem_cons_self))
    clear f14
    -- a word comes
    refine ⟨fun σ' H' => σ' = [some (.ref bx), some (.ref l.S), some (.ref nl), some (.ref l.k), some (.ref l.hd), some (.ref l.w), some (.str place), some (.str way), some (.int d3), some (.int d4), none, none] ∧ H' = H4, ?_, ?_⟩
    · refine ⟨_, rfl, rfl, _, rfl, ?_⟩
      by_cases c1 : way = "come"
      · rw [dec_str c1]
        refine iteT ?_
        refine ⟨_, rfl, _, rfl, l.w, _, rfl, .inl (SqL.of ew4), d3, _, rfl, rfl, _, rfl, ?_⟩
        by_cases c2 : d3 < ((as.map V.ref).length : Int)
        · rw [decide_eq_true c2]
          refine iteT ?_
          rw [List.length_map] at c2
          obtain ⟨j3, rfl⟩ : ∃ j : Nat, d3 = (j : Int) := ⟨d3.toNat, by omega⟩
          obtain ⟨x, hx⟩ : ∃ x, m.ws[j3]? = some x := ⟨_, List.getElem?_eq_getElem (by omega)⟩
          refine ⟨_, rfl, _, rfl, l, m, j3, x, rfl, S, D4.rep, O, by omega, hx, fun H5 R5 f5 => ?_⟩
          have ht5 : (comeM m x).t = m.t ∧ (comeM m x).ws = m.ws := by
            unfold comeM gotM openM
            constructor <;> (split <;> split <;> rfl)
          refine kq _ H5 (ok_come O (get_bound hx)) ⟨R5, D4.box.fr f5 (box_out D4.box D4.rep nw), by rw [ht5.1]; omega, by rw [ht5.2]; omega, D4.fr.trans (f5.mono fun y hy => List.mem_cons_of_mem _ hy)⟩
        · rw [decide_eq_false c2]
          exact iteF ⟨rfl, rfl⟩
      · rw [dec_strn c1]
        refine iteF ?_
        exact iteF ⟨rfl, rfl⟩
    rintro σ' H' ⟨rfl, rfl⟩
    -- used
    refine ⟨_, rfl, l.S, _, rfl, get_used eS4, ?_⟩
    -- a use is over
    refine ⟨fun σ' H' => σ' = [some (.ref bx), some (.ref l.S), some (.ref nl), some (.ref l.k), some (.ref l.hd), some (.ref l.w), some (.str place), some (.str way), some (.int d3), some (.int d4), some uv, none] ∧
      ∃ m1, Ok l.nms m1 ∧ ((way = "over" ∧ Done z H H' l m1 bx (c + 4) B (B + 1)) ∨ (¬ way = "over" ∧ Done z H H' l m1 bx (c + 4) B B)), ?_, ?_⟩
    · refine ⟨_, rfl, rfl, _, rfl, ?_⟩
      by_cases co : way = "over"
      case neg =>
        rw [dec_strn co]
        exact iteF (iteF ⟨rfl, m, O, .inr ⟨co, D4⟩⟩)
      rw [dec_str co]
      refine iteT ⟨_, rfl, _, rfl, ?_⟩
      obtain ⟨⟨uv4, eS4', oU4⟩, kp4, ehd4, hho4, as4, ew4', wa4⟩ := id D4.rep
      have euv : uv4 = uv := by
        rw [eS4] at eS4'
        have h := HO.dK.inj (Option.some.inj eS4')
        have h2 : valV (stK l uv) (Sum.inr ("used" : Str) : Key) = valV (stK l uv4) (Sum.inr ("used" : Str) : Key) := by rw [h]
        rw [st_used, st_used] at h2
        exact (Option.some.inj h2).symm
      subst euv
      cases hus : m.us with
      | none =>
        rw [hus] at oU4
        have oU4 : uv4 = .non := oU4
        subst oU4
        exact iteF ⟨rfl, m, O, .inl ⟨co, D4.mono (Nat.le_refl _) (Nat.le_succ _)⟩⟩
      | some x =>
        obtain ⟨n, p⟩ := x
        rw [hus] at oU4
        obtain ⟨ua, rfl, hua⟩ := oU4
        refine iteT ?_
        obtain ⟨rfl, hsh, hg, hp, hno⟩ := O.us n p hus
        have t1 : 1 ≤ m.t := O.t1 (by rw [hsh]; exact fun e => nomatch e)
        have t2 : m.t ≤ 10 ^ 30 := Int.le_trans mt (Int.le_trans (show (B : Int) ≤ 900 by omega) (by decide))
        refine ⟨_, rfl, rfl, _, rfl, ?_⟩
        refine ite2 (fun _ => ?_) (fun _ => ?_)
        · -- the lock is ended by it
          obtain ⟨dx4, v4, ek4, eo4⟩ := id kp4
          rw [hsh] at kp4
          refine ⟨_, rfl, l.k, dx4, _, rfl, ek4, kf_no (by decide +kernel) (by decide +kernel) (by decide +kernel), _, rfl, ua, _, _, _, rfl, rfl, SqT.of hua, rfl, l.k, m.t, p, m.op, rfl, kp4, t1, t2, fun H5 hK f5 => ?_⟩
          have R5 := D4.rep.keep S hK f5
          have D5 := D4.step (t' := B) (B' := B) nw R5 mt mw f5 chg_k
          obtain ⟨⟨uv5, eS5, oU5⟩, _⟩ := id R5
          refine ⟨_, rfl, l.S, _, rfl, put_used eS5, rfl, ?_⟩
          have R6 := R5.used (uv := .non) (us := none) S upd_same rfl Fr.one
          exact ⟨endM m, ok_end O hus, .inl ⟨co, D5.step nw R6 mt (Nat.le_succ_of_le mw) Fr.one chg_S⟩⟩
        · -- or told by a word to be open
          obtain ⟨dy4, y4, n4, eh4, eu4⟩ := id (hho4 p hp)
          refine ⟨_, rfl, _, rfl, ua, _, _, _, rfl, rfl, SqT.of hua, rfl, l.hd, _, rfl, get_h ehd4 hp, l.ha p, dy4, _, rfl, eh4, hf_no (by decide +kernel) (by decide +kernel) (by decide +kernel), _, rfl, ua, _, _, _, rfl, rfl, SqT.of hua, rfl, l.ha p, m.g p, m.r p, _, _, rfl, hho4 p hp, fun H5 hH f5 => ?_⟩
          have R5 : Rep z H5 l m := by
            have h := D4.rep.hold S hp hH f5
            rw [fset_id, fset_id] at h
            exact h
          have D5 := D4.step (t' := B) (B' := B) nw R5 mt mw f5 (chg_h hp)
          have hua5 : H5 ua = some (.tup [.int m.t, .str p]) := f5 _ _ hua fun h => by
            rw [List.mem_singleton.mp h, eh4] at hua
            cases hua
          obtain ⟨_, _, _, _, as5, ew5, wa5⟩ := id R5
          refine ⟨_, rfl, .inl ⟨rfl, _, SqL.of ew5⟩, _, rfl, ua, _, _, _, rfl, rfl, SqT.of hua5, rfl, _, rfl, ua, _, _, _, rfl, rfl, SqT.of hua5, rfl, (by show 3 ≤ sizeLine; decide), fun q hq => ?_⟩
          have f6 : Same H5 (upd H5 q (.tup [.str "open", .int m.t, .str p])) := Fr.nil ((Fr.same (Same.refl _)).upd_new hq)
          have R6 := R5.same f6
          have D6 := D5.same f6
          have ew6 := f6 _ _ ew5
          have l5 : as5.length = m.ws.length := words_len wa5
          refine ⟨l.w, _, _, rfl, rfl, ew6, (by rw [List.length_map]; exact small1000 (by omega)), ?_⟩
          have nqw : q ≠ l.w := fun h => by
            rw [h, ew5] at hq
            cases hq
          have R7 := R6.word (x := (false, m.t, p)) (a := q) S ew6 (wa5.fr (c := []) (Fr.same f6) fun _ h => absurd h (by simp)) upd_same (by rw [upd_ne nqw]; exact upd_same) Fr.one
          have D7 := D6.step (t' := B) (B' := B + 1) nw R7 mt (by show (m.ws ++ [_]).length ≤ B + 1; rw [List.length_append]; show m.ws.length + 1 ≤ B + 1; omega) Fr.one chg_w
          obtain ⟨⟨uv7, eS7, oU7⟩, _⟩ := id R7
          refine ⟨_, rfl, l.S, _, rfl, put_used eS7, rfl, ?_⟩
          have R8 := R7.used (uv := .non) (us := none) S upd_same rfl Fr.one
          exact ⟨noteM m m.t p, ok_note O hus, .inl ⟨co, D7.step nw R8 D7.tim D7.wds Fr.one chg_S⟩⟩
    rintro σ' H5 ⟨rfl, m1, O1, hD5⟩
    -- what is tried
    refine ⟨fun σ' H' => ∃ fv m2, σ' = [some (.ref bx), some (.ref l.S), some (.ref nl), some (.ref l.k), some (.ref l.hd), some (.ref l.w), some (.str place), some (.str way), some (.int d3), some (.int d4), some uv, some fv] ∧
      ((fv = .non ∧ Ok l.nms m2 ∧ Done z H H' l m2 bx (c + 4) (B + 1) (B + 1)) ∨
       (¬ way = "lock" ∧ ¬ way = "use" ∧ ¬ way = "give" ∧ Ok l.nms m2 ∧ Done z H H' l m2 bx (c + 4) (B + 1) (B + 1)) ∨
       (way = "lock" ∧ fv = .int m2.t ∧ Ok l.nms { m2 with ws := m2.ws ++ [(true, m2.t, place)] } ∧ Done z H H' l m2 bx (c + 4) (B + 1) B) ∨
       (way = "use" ∧ ∃ a n, fv = .ref a ∧ H' a = some (.tup [.int n, .str "home"]) ∧ Ok l.nms { m2 with us := some (n, place) } ∧ Done z H H' l m2 bx (c + 4) (B + 1) B) ∨
       (way = "give" ∧ ∃ a n, fv = .ref a ∧ H' a = some (.tup [.int n, .str "home"]) ∧ Ok l.nms { m2 with ws := m2.ws ++ [(false, n, place)] } ∧ Done z H H' l m2 bx (c + 4) (B + 1) B)), ?_, ?_⟩
    · refine ⟨_, rfl, (by show 4 ≤ sizeLine; decide), fun p4 hp4 => ?_⟩
      refine ⟨p4, four, rfl, .inr (SqT.of upd_same), rfl, rfl, _, rfl, ?_⟩
      have f6 : Same H5 (upd H5 p4 (.tup four)) := Fr.nil ((Fr.same (Same.refl _)).upd_new hp4)
      show (if inV (.str way) four = true then _ else _)
      by_cases c4 : way = "lock" ∨ way = "use" ∨ way = "give" ∨ way = "unlock"
      case neg =>
        have n1 : ¬ way = "lock" := fun h => c4 (.inl h)
        have n2 : ¬ way = "use" := fun h => c4 (.inr (.inl h))
        have n3 : ¬ way = "give" := fun h => c4 (.inr (.inr (.inl h)))
        have n4 : ¬ way = "unlock" := fun h => c4 (.inr (.inr (.inr h)))
        rw [four_no n1 n2 n3 n4]
        refine iteF ⟨.non, m1, rfl, .inl ⟨rfl, O1, ?_⟩⟩
        rcases hD5 with ⟨_, d⟩ | ⟨_, d⟩
        · exact (d.same f6).mono (Nat.le_succ _) (Nat.le_refl _)
        · exact (d.same f6).mono (Nat.le_succ _) (Nat.le_succ _)
      rw [four_yes c4]
      refine iteT ?_
      have hno : ¬ way = "over" := by
        intro h
        rw [h] at c4
        exact absurd c4 (by decide +kernel)
      have D5 : Done z H H5 l m1 bx (c + 4) B B := by
        rcases hD5 with ⟨h, _⟩ | ⟨_, d⟩
        · exact absurd h hno
        · exact d
      have D6 := D5.same f6
      generalize upd H5 p4 (.tup four) = H6 at D6 ⊢
      have kp6 := D6.rep.kp
      have ho6 := D6.rep.ho place hpn
      have t6 := D6.tim
      have w6 := D6.wds
      refine ⟨_, rfl, _, rfl, _, rfl, l.hd, _, rfl, get_h D6.rep.hd hpn, _, rfl, _, rfl, l.k, l.ha place, way, place, m1.t, m1.sh, m1.op, m1.g place, m1.r place, rfl, kp6, ho6, fun h => ?_, fun H7 f7 => ?_, fun cw hs H7 hK f7 => ?_, fun cw n hn7 a H7 ha hH f7 => ?_, fun n1 n2 n3 hop H7 hK f7 => ?_⟩
      · obtain ⟨q, hq, _⟩ := O1.op h
        rw [hq]
        exact fun e => nomatch e
      · exact ⟨.non, m1, rfl, .inl ⟨rfl, O1, (D6.same f7).mono (Nat.le_succ _) (Nat.le_succ _)⟩⟩
      · have R7 := D6.rep.keep S hK f7
        exact ⟨_, _, rfl, .inr (.inr (.inl ⟨cw, rfl, ok_lock O1 hs hpn, D6.step nw R7 (by show m1.t + 1 ≤ ((B + 1 : Nat) : Int); omega) w6 f7 chg_k⟩))⟩
      · have R7 := D6.rep.hold S hpn hH f7
        rw [fset_id] at R7
        have D7 := D6.step (t' := B + 1) (B' := B) nw R7 (by show m1.t ≤ ((B + 1 : Nat) : Int); omega) w6 f7 (chg_h hpn)
        rcases cw with cw | cw
        · exact ⟨_, _, rfl, .inr (.inr (.inr (.inl ⟨cw, a, n, rfl, ha, ok_use O1 hn7 hpn, D7⟩)))⟩
        · exact ⟨_, _, rfl, .inr (.inr (.inr (.inr ⟨cw, a, n, rfl, ha, ok_give O1 hn7 hpn, D7⟩)))⟩
      · have R7 := D6.rep.keep S hK f7
        exact ⟨_, _, rfl, .inr (.inl ⟨n1, n2, n3, ok_free O1 hop, D6.step nw R7 (by show m1.t ≤ ((B + 1 : Nat) : Int); omega) (Nat.le_succ_of_le w6) f7 chg_k⟩)⟩
    rintro σ' H6 ⟨fv, m2, rfl, hm⟩
    -- what is said of it
    refine ⟨fun σ' H' => ∃ m3, Ok l.nms m3 ∧ Done z H H' l m3 bx (c + 4) (B + 1) (B + 1), ?_, ?_⟩
    · rcases hm with ⟨rfl, O2, D2⟩ | ⟨n1, n2, n3, O2, D2⟩ | ⟨cw, rfl, O2, D2⟩ | ⟨cw, a, n, rfl, ha, O2, D2⟩ | ⟨cw, a, n, rfl, ha, O2, D2⟩
      · exact way_no rfl rfl (.inr rfl) (iteF (way_no rfl rfl (.inr rfl) (iteF (way_no rfl rfl (.inr rfl) (iteF ⟨m2, O2, D2⟩)))))
      · exact way_no rfl rfl (.inl n1) (iteF (way_no rfl rfl (.inl n2) (iteF (way_no rfl rfl (.inl n3) (iteF ⟨m2, O2, D2⟩)))))
      · refine way_yes rfl rfl cw (fun e => nomatch e) (iteT ?_)
        obtain ⟨_, _, _, _, as6, ew6, wa6⟩ := id D2.rep
        refine ⟨_, rfl, .inl ⟨rfl, _, SqL.of ew6⟩, _, rfl, _, rfl, (by show 3 ≤ sizeLine; decide), fun q hq => ?_⟩
        have f7 : Same H6 (upd H6 q (.tup [.str "lock", .int m2.t, .str place])) := Fr.nil ((Fr.same (Same.refl _)).upd_new hq)
        have D7 := D2.same f7
        have l6 : as6.length = m2.ws.length := words_len wa6
        have w7 := D7.wds
        have nqw : q ≠ l.w := fun h => by
          rw [h, ew6] at hq
          cases hq
        refine ⟨l.w, _, _, rfl, rfl, f7 _ _ ew6, (by rw [List.length_map]; exact small1000 (by omega)), ?_⟩
        have R8 := D7.rep.word (x := (true, m2.t, place)) (a := q) S (f7 _ _ ew6) (wa6.fr (c := []) (Fr.same f7) fun _ h => absurd h (by simp)) upd_same (by rw [upd_ne nqw]; exact upd_same) Fr.one
        exact ⟨_, O2, D7.step nw R8 D7.tim (by show (m2.ws ++ [_]).length ≤ B + 1; rw [List.length_append]; show m2.ws.length + 1 ≤ B + 1; omega) Fr.one chg_w⟩
      · refine way_no rfl rfl (.inl (by rw [cw]; decide +kernel)) (iteF (way_yes rfl rfl cw (fun e => nomatch e) (iteT ?_)))
        refine ⟨_, rfl, a, _, _, _, rfl, rfl, SqT.of ha, rfl, _, rfl, (by show 2 ≤ sizeLine; decide), fun q hq => ?_⟩
        have f7 : Same H6 (upd H6 q (.tup [.int n, .str place])) := Fr.nil ((Fr.same (Same.refl _)).upd_new hq)
        have D7 := D2.same f7
        obtain ⟨⟨uv7, eS7, oU7⟩, _⟩ := id D7.rep
        have nqS : q ≠ l.S := fun h => by
          obtain ⟨⟨uv6, eS6, _⟩, _⟩ := D2.rep
          rw [h, eS6] at hq
          cases hq
        refine ⟨_, rfl, l.S, _, rfl, put_used eS7, ?_⟩
        have R8 := D7.rep.used (uv := .ref q) (us := some (n, place)) S upd_same ⟨q, rfl, by rw [upd_ne nqS]; exact upd_same⟩ Fr.one
        exact ⟨_, O2, D7.step nw R8 D7.tim (Nat.le_succ_of_le D7.wds) Fr.one chg_S⟩
      · refine way_no rfl rfl (.inl (by rw [cw]; decide +kernel)) (iteF (way_no rfl rfl (.inl (by rw [cw]; decide +kernel)) (iteF (way_yes rfl rfl cw (fun e => nomatch e) (iteT ?_)))))
        obtain ⟨_, _, _, _, as6, ew6, wa6⟩ := id D2.rep
        refine ⟨_, rfl, .inl ⟨rfl, _, SqL.of ew6⟩, _, rfl, a, _, _, _, rfl, rfl, SqT.of ha, rfl, _, rfl, (by show 3 ≤ sizeLine; decide), fun q hq => ?_⟩
        have f7 : Same H6 (upd H6 q (.tup [.str "open", .int n, .str place])) := Fr.nil ((Fr.same (Same.refl _)).upd_new hq)
        have D7 := D2.same f7
        have l6 : as6.length = m2.ws.length := words_len wa6
        have w7 := D7.wds
        have nqw : q ≠ l.w := fun h => by
          rw [h, ew6] at hq
          cases hq
        refine ⟨l.w, _, _, rfl, rfl, f7 _ _ ew6, (by rw [List.length_map]; exact small1000 (by omega)), ?_⟩
        have R8 := D7.rep.word (x := (false, n, place)) (a := q) S (f7 _ _ ew6) (wa6.fr (c := []) (Fr.same f7) fun _ h => absurd h (by simp)) upd_same (by rw [upd_ne nqw]; exact upd_same) Fr.one
        exact ⟨_, O2, D7.step nw R8 D7.tim (by show (m2.ws ++ [_]).length ≤ B + 1; rw [List.length_append]; show m2.ws.length + 1 ≤ B + 1; omega) Fr.one chg_w⟩
    rintro σ' H7 ⟨m3, O3, D3⟩
    exact kq m3 H7 O3 D3
end
end K23

/-! ### what is told -/
namespace K23
open PySem PySem.Spec PyProof.Rows L2 K23x
def optD : Option (Int × Str) → PyData
  | none => .none
  | some x => dat x
def rowD (m : M Str) (n : Str) : PyData := .list [optD ((m.r n).map fun k => (k, ("home" : Str))), .int (m.g n)]
/-- all that is told of a state -/
def tdat (ns : List Str) (m : M Str) : PyData := .list (optD (m.sh.map fun p => (m.t, p)) :: .bool m.op :: ns.map (rowD m))
theorem opt_dp {K : PySem.W.Frag} {H : Hp} {v : V} {o : Option (Int × Str)} (h : Opt H v o) : Dp K H v (optD o) := by
  cases o with
  | none =>
    have h : v = .non := h
    rw [h]
    exact .non
  | some x =>
    obtain ⟨a, rfl, e⟩ := h
    exact .tup (SqT.of e) (.cons (.int _) (.cons (.str _) .nil))
theorem home_ok : PyData.strOk ("home" : Str) = true := by decide +kernel
theorem opt_lay {o : Option (Int × Str)} (h : ∀ n p, o = some (n, p) → PyData.strOk p = true) : (optD o).canLay0 = true ∧ (optD o).depth ≤ 1 := by
  cases o with
  | none => exact ⟨rfl, Nat.zero_le _⟩
  | some x =>
    obtain ⟨n, p⟩ := x
    have e := h n p rfl
    exact ⟨by simp [optD, dat, PyData.canLay0, PyData.canLayAll0, e], by simp [optD, dat, PyData.depth, PyData.depthAll]⟩
theorem row_lay {m : M Str} {n : Str} : (rowD m n).canLay0 = true ∧ (rowD m n).depth ≤ 2 := by
  obtain ⟨a, b⟩ := opt_lay (o := (m.r n).map fun k => (k, ("home" : Str))) (fun k p e => by
    cases h : m.r n with
    | none =>
      rw [h] at e
      cases e
    | some y =>
      rw [h] at e
      cases e
      exact home_ok)
  refine ⟨by simp [rowD, PyData.canLay0, PyData.canLayAll0, a], ?_⟩
  simp only [rowD, PyData.depth, PyData.depthAll]
  omega
theorem rows_lay {m : M Str} : ∀ {ns : List Str}, PyData.canLayAll0 (ns.map (rowD m)) = true ∧ PyData.depthAll (ns.map (rowD m)) ≤ 2
  | [] => ⟨rfl, Nat.zero_le _⟩
  | n :: r => by
    obtain ⟨a, b⟩ := rows_lay (m := m) (ns := r)
    obtain ⟨c, d⟩ := row_lay (m := m) (n := n)
    refine ⟨by simp [PyData.canLayAll0, a, c], ?_⟩
    simp only [List.map_cons, PyData.depthAll]
    omega
theorem tdat_lay {l : Loc} {m : M Str} (S : Sta l) (O : Ok l.nms m) : (tdat l.nms m).canLay0 = true ∧ SeqAt.shaped (tdat l.nms m) = true := by
  obtain ⟨a, b⟩ := opt_lay (o := m.sh.map fun p => (m.t, p)) (fun k p e => by
    cases h : m.sh with
    | none =>
      rw [h] at e
      cases e
    | some y =>
      rw [h] at e
      cases e
      exact (S.so p (O.shn p h)).ok)
  obtain ⟨c, d⟩ := rows_lay (m := m) (ns := l.nms)
  have e : (tdat l.nms m).canLay0 = true := by simp [tdat, PyData.canLay0, PyData.canLayAll0, a, c]
  refine ⟨e, ?_⟩
  unfold SeqAt.shaped
  rw [e, Bool.true_and]
  refine decide_eq_true ?_
  simp only [tdat, PyData.depth, PyData.depthAll]
  omega
/-- at t stands what is told of the state; t and its rows are younger than Hb -/
def ToldAt (Hb H : Hp) (l : Loc) (m : M Str) (t : Addr) : Prop := ∃ (lv : V) (us : List Addr), Hb t = none ∧ (∀ u ∈ us, Hb u = none) ∧ H t = some (.lst (lv :: .bl m.op :: us.map V.ref)) ∧ Opt H lv (m.sh.map fun p => (m.t, p)) ∧
  Paired (fun u n => ∃ rv, H u = some (.lst [rv, .int (m.g n)]) ∧ Opt H rv ((m.r n).map fun k => (k, ("home" : Str)))) us l.nms
theorem ToldAt.fr {Hb H H' : Hp} {l : Loc} {m : M Str} {t : Addr} {c : List Addr} (x : ToldAt Hb H l m t) (f : Fr H H' c) (hc : ∀ a ∈ c, Hb a ≠ none) (ht : ∀ a ∈ c, ∀ xs, H a ≠ some (.tup xs)) : ToldAt Hb H' l m t := by
  obtain ⟨lv, us, h1, h2, h3, h4, h5⟩ := x
  refine ⟨lv, us, h1, h2, f _ _ h3 fun h => hc _ h h1, h4.fr f ht, ?_⟩
  clear h3 h4
  generalize l.nms = ns at h5 ⊢
  induction h5 with
  | nil => exact .nil
  | cons h _ ih =>
    obtain ⟨rv, e, o⟩ := h
    exact .cons ⟨rv, f _ _ e fun h => hc _ h (h2 _ List.mem_cons_self), o.fr f ht⟩ (ih fun u hu => h2 u (List.mem_cons_of_mem _ hu))
theorem ToldAt.dp {K : PySem.W.Frag} {Hb H : Hp} {l : Loc} {m : M Str} {t : Addr} (x : ToldAt Hb H l m t) : Dp K H (.ref t) (tdat l.nms m) := by
  obtain ⟨lv, us, h1, h2, h3, h4, h5⟩ := x
  refine .lst (SqL.of h3) (.cons (opt_dp h4) (.cons (.bl _) ?_))
  clear h2 h3
  generalize l.nms = ns at h5 ⊢
  induction h5 with
  | nil => exact .nil
  | cons h _ ih =>
    obtain ⟨rv, e, o⟩ := h
    exact .cons (.lst (SqL.of e) (.cons (opt_dp o) (.cons (.int _) .nil))) ih
theorem paired_mem {α β : Type} {F G : α → β → Prop} : ∀ {l1 : List α} {l2 : List β}, Paired F l1 l2 → (∀ a ∈ l1, ∀ b, F a b → G a b) → Paired G l1 l2
  | _, _, .nil, _ => .nil
  | _, _, .cons r t, f => .cons (f _ List.mem_cons_self _ r) (paired_mem t fun a h b q => f a (List.mem_cons_of_mem _ h) b q)
section
variable {z : Adr} {K : PySem.W.Frag}
abbrev tTold (z : Adr) : TE := tLst (tCons (tMeth z.C "locked" (spLocked z) [] E0 (tDGet (tVar 3) (tC (.str "keeper"))) tNil) (tCons (tMeth z.C "is_open" (spIsOpen z) [] E0 (tDGet (tVar 3) (tC (.str "keeper"))) tNil) tNil))
theorem told_made {H : Hp} {σ : L2.St} {Q : VK} {l : Loc} {m : M Str} (h3 : σ[3]? = some (some (.ref l.S))) (R : Rep z H l m) (k : ∀ lv t H', H t = none → H' t = some (.lst [lv, .bl m.op]) → Opt H' lv (m.sh.map fun p => (m.t, p)) → Same H H' → Q (.ref t) H') : tTold z σ H Q := by
  obtain ⟨⟨uv, eS, oU⟩, kp, ehd, hho, as, ew, wa⟩ := R
  obtain ⟨dx, v, ek, eo⟩ := id kp
  have noK : ∀ {m1 : Str}, ¬ m1 = "kept_times" → ¬ m1 = "kept_shut" → ¬ m1 = "kept_open" → (kf m.t v m.op).lookup m1 = none := kf_no
  refine ⟨_, h3, l.S, _, rfl, get_keeper eS, l.k, dx, _, rfl, ek, noK (by decide +kernel) (by decide +kernel) (by decide +kernel), l.k, m.t, m.sh, m.op, rfl, kp, fun lv hlv => ?_⟩
  refine ⟨_, h3, l.S, _, rfl, get_keeper eS, l.k, dx, _, rfl, ek, noK (by decide +kernel) (by decide +kernel) (by decide +kernel), l.k, m.t, m.sh, m.op, rfl, kp, (by show 2 ≤ sizeLine; decide), fun t ht => ?_⟩
  have f : Same H (upd H t (.lst [lv, .bl m.op])) := Fr.nil ((Fr.same (Same.refl H)).upd_new ht)
  exact k lv t _ ht upd_same (hlv.same f) f
abbrev tRow (z : Adr) : TE := tLst (tCons (tMeth z.D "right" (spRight z) [] E0 (tVar 11) tNil) (tCons (tMeth z.D "seen" (spSeen z) [] E0 (tVar 11) tNil) tNil))
abbrev tExt (K : PySem.W.Frag) (z : Adr) (i : Nat) : TE := tBM K "list" rExtend (tVar i) (tCons (tLockE (tLc (iVals (tDGet (tVar 3) (tC (.str "holders")))) (gName 11) tYes (tRow z) [11])) tNil)
theorem told_ext {Hb H : Hp} {σ : L2.St} {N : Ends} {l : Loc} {m : M Str} {t : Addr} {lv : V} {i : Nat} (h3 : σ[3]? = some (some (.ref l.S))) (hi : σ[i]? = some (some (.ref t))) (hw : ∀ x, wipe ((wipe σ [11]).set 11 (some x)) [11] = wipe σ [11])
    (hg : ∀ x : V, ((wipe σ [11]).set 11 (some x))[11]? = some (some x)) (S : Sta l) (R : Rep z Hb l m) (fb : Same Hb H) (tb : Hb t = none) (ht : H t = some (.lst [lv, .bl m.op])) (ol : Opt H lv (m.sh.map fun p => (m.t, p)))
    (k : ∀ H', Same Hb H' → ToldAt Hb H' l m t → N.nx σ H') : tDrop (tExt K z i) N σ H := by
  have RH := R.same fb
  obtain ⟨⟨uv, eS, oU⟩, kp, ehd, hho, as, ew, wa⟩ := id RH
  refine ⟨_, hi, .inl ⟨rfl, _, SqL.of ht⟩, l.hd, .dK (hdK l), ehd, True.intro, fun od => ?_⟩
  have eS1 : upd H l.hd (.frz od (.dK (hdK l))) l.S = some (.dK (stK l uv)) := by rw [upd_ne S.sh]; exact eS
  have nth : t ≠ l.hd := ne_of ht ehd (by intro q; cases q)
  refine ⟨_, h3, l.S, _, rfl, get_holders eS1, l.hd, od, hdK l, rfl, upd_same, fun D hD => ?_⟩
  have hlen : (hdK l).length = l.nms.length := by unfold hdK; rw [List.length_map]
  refine lc_it walk_values (fun i H' => Same (upd H l.hd (.frz od (.dK (hdK l)))) H' ∧ ∃ us : List Addr, H' D = some (.lst (us.map V.ref)) ∧ (∀ u ∈ us, upd H l.hd (.frz od (.dK (hdK l))) u = none) ∧
    Paired (fun u n => ∃ rv, H' u = some (.lst [rv, .int (m.g n)]) ∧ Opt H' rv ((m.r n).map fun k => (k, ("home" : Str)))) us (l.nms.take i)) ?_ ?_ ?_ ?_
  · exact ⟨Fr.nil ((Fr.same (Same.refl _)).upd_new hD), [], upd_same, (fun u h => by cases h), .nil⟩
  · exact fun i H' _ p => p.1 _ _ upd_same
  · rintro i x H1 H2 hi ⟨f1, us, hus, hun, hup⟩ ⟨rfl, ky, hky⟩
    have hi2 : i < l.nms.length := by omega
    obtain ⟨nm, hnm⟩ : ∃ nm, l.nms[i]? = some nm := ⟨_, List.getElem?_eq_getElem hi2⟩
    have hmem := List.mem_of_getElem? hnm
    have ex : x = .ref (l.ha nm) := by
      have h : (hdK l)[i]? = some (ky, x) := hky
      unfold hdK at h
      rw [List.getElem?_map, hnm] at h
      have h := Option.some.inj h
      exact (Prod.mk.inj h).2.symm
    subst ex
    have hold : HoldAt z.D H2 (l.ha nm) (m.g nm) (m.r nm) := by
      obtain ⟨_, _, _, eh, _⟩ := hho nm hmem
      exact ((hho nm hmem).fr (c := [l.hd]) Fr.one (not_one (ne_of eh ehd (by intro q; cases q))) (one_tup ehd (fun xs e => by cases e))).same f1
    obtain ⟨dy, u0, n0, eh, eu⟩ := id hold
    have noH : ∀ {m1 : Str}, ¬ m1 = "kept_greatest" → ¬ m1 = "kept_right" → ¬ m1 = "kept_note" → (hf (m.g nm) u0 n0).lookup m1 = none := hf_no
    refine ⟨hw _, yesT ?_⟩
    refine ⟨_, hg _, l.ha nm, dy, _, rfl, eh, noH (by decide +kernel) (by decide +kernel) (by decide +kernel), l.ha nm, m.g nm, m.r nm, rfl, hold, fun rv hrv => ?_⟩
    refine ⟨_, hg _, l.ha nm, dy, _, rfl, eh, noH (by decide +kernel) (by decide +kernel) (by decide +kernel), l.ha nm, m.g nm, m.r nm, rfl, hold, (by show 2 ≤ sizeLine; decide), fun u hu => ?_⟩
    have f2 : Same H2 (upd H2 u (.lst [rv, .int (m.g nm)])) := Fr.nil ((Fr.same (Same.refl _)).upd_new hu)
    have nuD : u ≠ D := fun e => by
      rw [e, hus] at hu
      cases hu
    have hu1 := f1.free hu
    have l1 : us.length ≤ 2 := by
      have e2 : us.length = (l.nms.take i).length := Paired.length hup
      have e4 := S.ln
      rw [List.length_take] at e2
      omega
    have f3 : Fr H2 (upd (upd H2 u (.lst [rv, .int (m.g nm)])) D (.lst (us.map V.ref ++ [.ref u]))) [D] := (Fr.same f2).upd_in List.mem_cons_self
    have tD := one_tup hus (fun xs e => by cases e)
    refine ⟨us.map V.ref, f2 _ _ hus, (by rw [List.length_map]; exact small1000 (by omega)), Fr.nil ((Fr.same (f1.trans f2)).upd_new hD), us ++ [u], ?_, ?_, ?_⟩
    · rw [upd_same, List.map_append]
      rfl
    · intro y hy
      rcases List.mem_append.mp hy with h | h
      · exact hun y h
      · rw [List.mem_singleton.mp h]
        exact hu1
    · rw [List.take_add_one, hnm]
      refine Paired.snoc (Paired.mapP hup fun y n h => ?_) ⟨rv, by rw [upd_ne nuD]; exact upd_same, hrv.fr f3 tD⟩
      obtain ⟨rv', e', o'⟩ := h
      refine ⟨rv', ?_, o'.fr f3 tD⟩
      by_cases c : y = D
      · exfalso
        rw [c, hus] at e'
        have e2 := HO.lst.inj (Option.some.inj e')
        match us, e2 with
        | [], e2 => cases e2
        | [a], e2 => cases e2
        | a :: b :: r, e2 => cases (List.cons.inj (List.cons.inj e2).2).1
      · exact f3 _ _ e' (not_one c)
  · rintro H1 ⟨f1, us, hus, hun, hup⟩
    refine ⟨f1 _ _ upd_same, ?_⟩
    have hcut : l.nms.take (hdK l).length = l.nms := by rw [hlen]; exact List.take_length
    rw [hcut] at hup
    have nDh : D ≠ l.hd := fun e => by rw [e, upd_same] at hD; cases hD
    have f2 : Same H (upd H1 l.hd (.dK (hdK l))) := fun b o e => by
      by_cases c : b = l.hd
      · rw [c] at e ⊢
        rw [upd_same, ← e, ehd]
      · rw [upd_ne c]
        exact f1 b o (by rw [upd_ne c]; exact e)
    have nt : ∀ {a : Addr} {o : HO}, H1 a = some o → a ≠ l.hd → upd H1 l.hd (.dK (hdK l)) a = some o := fun {a o} h n => by rw [upd_ne n]; exact h
    have fz := f1 _ _ (upd_same (H := H) (a := l.hd) (o := .frz od (.dK (hdK l))))
    have l1 : us.length ≤ 2 := by
      have e2 : us.length = l.nms.length := Paired.length hup
      have e4 := S.ln
      omega
    refine ⟨t, D, _, _, rfl, rfl, f2 _ _ ht, nt hus nDh, (by rw [List.length_map]; exact size_small (by show 2 + us.length ≤ 1000; omega)), ?_⟩
    have ht2 := f2 _ _ ht
    have hun2 : ∀ u ∈ us, H u = none := fun u hu => by
      have h := hun u hu
      by_cases c : u = l.hd
      · rw [c, upd_same] at h
        cases h
      · rw [upd_ne c] at h
        exact h
    have fe : Fr (upd H1 l.hd (.dK (hdK l))) (upd (upd H1 l.hd (.dK (hdK l))) t (.lst ([lv, .bl m.op] ++ us.map V.ref))) [t] := Fr.one
    have tt := one_tup ht2 (fun xs e => by cases e)
    refine k _ (Fr.nil ((Fr.same (fb.trans f2)).upd_new tb)) ⟨lv, us, tb, fun u hu => fb.free (hun2 u hu), upd_same, (ol.same f2).fr fe tt, paired_mem hup fun u hu n h => ?_⟩
    obtain ⟨rv, e, o⟩ := h
    have nu : u ≠ l.hd := fun c => by rw [c, fz] at e; cases e
    have nut : u ≠ t := fun c => by
      have h := hun2 u hu
      rw [c, ht] at h
      cases h
    refine ⟨rv, fe _ _ (nt e nu) (not_one nut), ?_⟩
    have o2 : Opt (upd H1 l.hd (.dK (hdK l))) rv ((m.r n).map fun k => (k, ("home" : Str))) := o.fr (l := [l.hd]) Fr.one (one_tup fz (fun xs e => by cases e))
    exact o2.fr fe tt
end
end K23

/-! ### the law -/
namespace K23
open PySem PySem.Spec PyProof.Rows L2 K23x
theorem turns_ok {n : Int} (h : 0 ≤ n) : 3 ≤ (if (if (61 : Int) < n then 61 else n) > 3 then (if (61 : Int) < n then 61 else n) else 3) ∧ (if (if (61 : Int) < n then 61 else n) > 3 then (if (61 : Int) < n then 61 else n) else 3) ≤ 61 := by
  by_cases a : (61 : Int) < n
  · rw [if_pos a, if_pos (by decide)]
    decide
  · rw [if_neg a]
    by_cases b : n > 3
    · rw [if_pos b]
      omega
    · rw [if_neg b]
      decide
/-- a state of the law, its names and rights left open -/
def locOf (S k hd w : Addr) (ns : List Str) (ha : Str → Addr) : Loc := ⟨S, k, hd, w, ns, ha⟩
theorem put_holder {S k hd w h : Addr} {ns : List Str} {ha : Str → Addr} {p : Str} :
    putK (hdK (locOf S k hd w ns ha)) (Sum.inr p : Key) (.ref h) = hdK (locOf S k hd w (if p ∈ ns then ns else ns ++ [p]) (fset ha p h)) := by
  show putK (ns.map fun n => ((Sum.inr n : Key), V.ref (ha n))) (Sum.inr p) (.ref h) = (if p ∈ ns then ns else ns ++ [p]).map fun n => ((Sum.inr n : Key), V.ref (fset ha p h n))
  by_cases c : p ∈ ns
  · rw [if_pos c]
    unfold putK
    rw [if_pos (by rw [valV_any]; show (valV (ns.map fun n => ((Sum.inr n : Key), V.ref (ha n))) (Sum.inr p)).isSome = true; have e := hd_look (l := locOf S k hd w ns ha) c; have e : valV (ns.map fun n => ((Sum.inr n : Key), V.ref (ha n))) (Sum.inr p) = some (.ref (ha p)) := e; rw [e]; rfl), List.map_map]
    refine List.map_congr_left fun n _ => ?_
    by_cases e : n = p
    · subst e
      show (if (Sum.inr n : Key) = Sum.inr n then ((Sum.inr n : Key), V.ref h) else _) = _
      rw [if_pos rfl, fset_same]
    · show (if (Sum.inr n : Key) = Sum.inr p then ((Sum.inr n : Key), V.ref h) else ((Sum.inr n : Key), V.ref (ha n))) = _
      rw [if_neg (key_ne e), fset_ne e]
  · rw [if_neg c]
    have hv : valV (ns.map fun n => ((Sum.inr n : Key), V.ref (ha n))) (Sum.inr p) = none := by
      cases q : valV (ns.map fun n => ((Sum.inr n : Key), V.ref (ha n))) (Sum.inr p) with
      | none => rfl
      | some v =>
        have m := valV_in q
        rw [List.map_map] at m
        obtain ⟨x, hx, e⟩ := List.mem_map.mp m
        have e2 : x = p := Sum.inr.inj e
        exact absurd (e2 ▸ hx) c
    rw [putK_new _ hv, List.map_append]
    have e : (ns.map fun n => ((Sum.inr n : Key), V.ref (ha n))) = ns.map fun n => ((Sum.inr n : Key), V.ref (fset ha p h n)) := List.map_congr_left fun n hn => by
      rw [fset_ne (fun e => by rw [e] at hn; exact c hn)]
    rw [e]
    show _ = _ ++ [((Sum.inr p : Key), V.ref (fset ha p h p))]
    rw [fset_same]
theorem merge_state {l : Loc} : mergeK [] (stK l .non) = stK l .non := by
  have n1 : valV ([] : List (Key × V)) (Sum.inr ("keeper" : Str)) = none := rfl
  have n2 : valV [((Sum.inr ("keeper" : Str) : Key), V.ref l.k)] (Sum.inr ("holders" : Str)) = none := (valV_neg k_kh).trans rfl
  have n3 : valV [((Sum.inr ("keeper" : Str) : Key), V.ref l.k), ((Sum.inr ("holders" : Str) : Key), V.ref l.hd)] (Sum.inr ("words" : Str)) = none := (valV_neg k_kw).trans ((valV_neg k_hw).trans rfl)
  have n4 : valV [((Sum.inr ("keeper" : Str) : Key), V.ref l.k), ((Sum.inr ("holders" : Str) : Key), V.ref l.hd), ((Sum.inr ("words" : Str) : Key), V.ref l.w)] (Sum.inr ("used" : Str)) = none := (valV_neg k_ku).trans ((valV_neg k_hu).trans ((valV_neg k_wu).trans rfl))
  show putK (putK (putK (putK [] (Sum.inr ("keeper" : Str) : Key) (V.ref l.k)) (Sum.inr ("holders" : Str)) (V.ref l.hd)) (Sum.inr ("words" : Str)) (V.ref l.w)) (Sum.inr ("used" : Str)) V.non = stK l .non
  rw [putK_new _ n1]
  show putK (putK (putK [((Sum.inr ("keeper" : Str) : Key), V.ref l.k)] (Sum.inr ("holders" : Str)) (V.ref l.hd)) (Sum.inr ("words" : Str)) (V.ref l.w)) (Sum.inr ("used" : Str)) V.non = stK l .non
  rw [putK_new _ n2]
  show putK (putK [((Sum.inr ("keeper" : Str) : Key), V.ref l.k), ((Sum.inr ("holders" : Str) : Key), V.ref l.hd)] (Sum.inr ("words" : Str)) (V.ref l.w)) (Sum.inr ("used" : Str)) V.non = stK l .non
  rw [putK_new _ n3]
  show putK [((Sum.inr ("keeper" : Str) : Key), V.ref l.k), ((Sum.inr ("holders" : Str) : Key), V.ref l.hd), ((Sum.inr ("words" : Str) : Key), V.ref l.w)] (Sum.inr ("used" : Str)) V.non = stK l .non
  rw [putK_new _ n4]
  rfl
theorem same_fr {H0 H H' : Hp} {c : List Addr} (f : Same H0 H) (g : Fr H H' c) (hc : ∀ x ∈ c, H0 x = none) : Same H0 H' := fun b o e => g b o (f b o e) fun h => by
  rw [hc b h] at e
  cases e
theorem chg_there {z : Adr} {H : Hp} {l : Loc} {m : M Str} (R : Rep z H l m) : ∀ a ∈ chg l, H a ≠ none := fun a h e => by
  obtain ⟨⟨uv, eS, _⟩, ⟨dx, v, ek, _⟩, hd, hh, as, ew, _⟩ := R
  rcases List.mem_cons.mp h with h | h
  · rw [h, eS] at e; cases e
  rcases List.mem_cons.mp h with h | h
  · rw [h, ek] at e; cases e
  rcases List.mem_cons.mp h with h | h
  · rw [h, ew] at e; cases e
  obtain ⟨n, hn, rfl⟩ := List.mem_map.mp h
  obtain ⟨_, _, _, eh, _⟩ := hh n hn
  rw [eh] at e; cases e
theorem seq_of {t u : TS} {D : Ends} {σ : L2.St} {H : Hp} (h : t { D with nx := u D } σ H) : tSeq t u D σ H := h
theorem asg_of {te : TE} {i : Nat} {D : Ends} {σ : L2.St} {H : Hp} (h : te σ H fun x H1 => D.nx (σ.set i (some x)) H1) : tAsg te (gName i) D σ H := h
/-- the slots of the law's frame, as its loops leave them -/
def Slots (a b nl S : Addr) (σ : L2.St) : Prop := ∃ v4 v5 v6 v7 v8 v9 v10 : Option V, σ = [some (.ref a), some (.ref b), some (.ref nl), some (.ref S), v4, v5, v6, v7, v8, v9, v10, none, none]
section
variable {P : Program} {w : World} {K : PySem.W.Frag} {mg : Str → Option Value} {base : Heap} {z : Adr}
def spLaw (K : PySem.W.Frag) : Sp := fun vs H Q _ => ∃ (a : Addr) (ns : List Int), vs = [.ref a] ∧ SqL K H a (ns.map V.int) ∧ ns.length ≤ 63 ∧ ∀ H', Q (.bl true) H'
abbrev nLaw : List Str := ["_law_script", "_law_box_here", "_law_names_here", "_law_state", "_law_name", "_law_k", "_law_turn", "_law_told", "_law_at", "_law_old", "_law_again", "_law_one", "_law_word"]
theorem scLaw : FnScope ["_law_script", "_law_box_here", "_law_names_here", "_law_state", "_law_name", "_law_k", "_law_turn", "_law_told", "_law_at", "_law_old", "_law_again", "_law_one", "_law_word"] ["_law_script"] (defScope sLaw) := ⟨rfl, rfl, rfl, by decide +kernel, rfl, by decide +kernel, by decide +kernel⟩

/-- all that the law calls -/
structure Calls (P : Program) (w : World) (K : PySem.W.Frag) (mg : Str → Option Value) (base : Heap) (z : Adr) : Prop where
  ki : Prm P w K mg base CX0 1 z.kI ["self"] (spKI z.C)
  hi : Prm P w K mg base CX0 1 z.hI ["self"] (spHI z.D)
  lo : Prm P w K mg base CX0 1 z.kLocked ["self"] (spLocked z)
  is : Prm P w K mg base CX0 1 z.kIsOpen ["self"] (spIsOpen z)
  ti : Prm P w K mg base CX0 1 z.kTimes ["self"] (spTimes z)
  ri : Prm P w K mg base CX0 1 z.hRight ["self"] (spRight z)
  se : Prm P w K mg base CX0 1 z.hSeen ["self"] (spSeen z)
  ce : Prm P w K mg base CX0 1 z.lCell ["_law_script", "_law_k"] (spCell K)
  bo : Prm P w K mg base CX0 1 z.lBox ["_law_cell_here"] spBox
  ta : Prm P w K mg base CX0 1 z.lTake ["_law_box_here", "_law_many"] spTake
  na : Prm P w K mg base CX0 2 z.lNames ["_law_box_here", "_law_many"] spNames
  co : Prm P w K mg base CX0 4 z.lCome ["_law_state", "_law_at"] (spCome z)
  do_ : Prm P w K mg base CX0 6 z.lDone ["_law_box_here", "_law_state", "_law_names_here"] (spDone z)
  sa : Prm P w K mg base CX0 2 z.lSafe ["_law_state"] (spSafe z)
theorem pr_law {f : Addr} {fd : FuncData} (F : Fun K "law" "law" sLaw f fd) (T : Txt K mg z) (G : Calls P w K mg base z) : FnOk P w K mg base CX0 7 f fd ["_law_script"] (spLaw K) := by
  obtain ⟨⟨fdKi, GKi, bKi⟩, ⟨fdHi, GHi, bHi⟩, ⟨fdLo, GLo, bLo⟩, ⟨fdIs, GIs, bIs⟩, ⟨fdTi, GTi, bTi⟩, ⟨fdRi, GRi, bRi⟩, ⟨fdSe, GSe, bSe⟩, ⟨fdCe, GCe, bCe⟩, ⟨fdBo, GBo, bBo⟩, ⟨fdTa, GTa, bTa⟩, ⟨fdNa, GNa, bNa⟩, ⟨fdCo, GCo, bCo⟩, ⟨fdDo, GDo, bDo⟩, ⟨fdSa, GSa, bSa⟩⟩ := G
  refine F.ok scLaw (fun vs H Q E h => ?_) (fun cdv A outer s H vs Q E hr h => ?_)
  · obtain ⟨a, ns, rfl, _⟩ := h
    rfl
  · obtain ⟨a, ns, rfl, hS, hlen, kq⟩ := h
    have hr1 : Room 1 _ := hr.mono (by decide)
    have hr2 : Room 2 _ := hr.mono (by decide)
    have hr4 : Room 4 _ := hr.mono (by decide)
    have hu := hu_of hr
    refine ⟨_, pss_cons (ps_set (i := 1) scLaw.nd rfl (Or.inl rfl) (pe_call GBo hr1 (by rfl) T.mgBox T.kBox bBo .nil pass0 (pa_cons (pe_call GCe hr1 (by rfl) T.mgCell T.kCell bCe .nil pass0 (pa_cons (pv 0) (pa_cons pe_int pa_nil))) pa_nil)))
      (pss_cons (ps_set (i := 2) scLaw.nd rfl (Or.inl rfl) (pe_call GNa hr2 (by rfl) T.mgNames T.kNames bNa .nil pass0 (pa_cons (pv 1) (pa_cons (pe_op op_add pe_int (pe_call GTa hr1 (by rfl) T.mgTake T.kTake bTa .nil pass0 (pa_cons (pv 1) (pa_cons pe_int pa_nil)))) pa_nil))))
      (pss_cons (ps_set (i := 3) scLaw.nd rfl (Or.inr rfl) (pe_disp (pps_cons pe_str (pe_make0 T.mkC GKi hr2 (by rfl) T.mgC bKi .nil pass0) (pps_cons pe_str pe_dnewK (pps_cons pe_str (pe_lst pa_nil) (pps_cons pe_str pe_non pps_nil)))) (by rfl) (by rfl) (fun z => by cases z) (by decide)))
      (pss_cons (ps_for PassesOwn.never rfl (pi_list (pv 2)) (pg_name (i := 4) scLaw.nd rfl (Or.inl rfl)) (pss_one (ps_dput hu (pe_dget hu (pv 3) pe_str (fun _ _ => rfl)) (pv 4) (pe_make0 T.mkD GHi hr2 (by rfl) T.mgD bHi .nil pass0) rfl)))
      (pss_cons (ps_for PassesOwn.never rfl (pi_range2 (by rfl) T.bRange (pa_cons pe_int (pa_cons (pe_callB (call_max2 rfl) (by rfl) T.bMax (by decide +kernel) (pa_cons pe_int (pa_cons (pe_callB (call_min2 rfl) (by rfl) T.bMin (by decide +kernel) (pa_cons (pe_callB call_len_seq (by rfl) T.bLen PySem.boot_len (pa_cons (pv 0) pa_nil)) (pa_cons pe_int pa_nil))) pa_nil))) pa_nil)))
        (pg_name (i := 5) scLaw.nd rfl (Or.inl rfl))
        (pss_cons (ps_set (i := 1) scLaw.nd rfl (Or.inl rfl) (pe_call GBo hr1 (by rfl) T.mgBox T.kBox bBo .nil pass0 (pa_cons (pe_call GCe hr1 (by rfl) T.mgCell T.kCell bCe .nil pass0 (pa_cons (pv 0) (pa_cons (pv 5) pa_nil))) pa_nil)))
        (pss_cons (ps_for PassesOwn.never rfl (pi_range1 (by rfl) T.bRange (pa_cons (pe_op op_add pe_int (pe_call GTa hr1 (by rfl) T.mgTake T.kTake bTa .nil pass0 (pa_cons (pv 1) (pa_cons pe_int pa_nil)))) pa_nil)) (pg_name (i := 6) scLaw.nd rfl (Or.inl rfl))
          (pss_one (ps_if (PW.pt (pw_or (pt_not (pt_val (pe_call GDo hr (by rfl) T.mgDone T.kDone bDo .nil pass0 (pa_cons (pv 1) (pa_cons (pv 3) (pa_cons (pv 2) pa_nil)))))) (pw_or1 (pt_not (pt_val (pe_call GSa hr2 (by rfl) T.mgSafe T.kSafe bSa .nil pass0 (pa_cons (pv 3) pa_nil))))))) (pss_one (ps_ret pe_bl)) pss_nil)))
        (pss_cons (ps_set (i := 7) scLaw.nd rfl (Or.inl rfl) (pe_lst (pa_cons (pe_meth0 (pe_dget hu (pv 3) pe_str (fun _ _ => rfl)) T.clC T.mLocked GLo hr1 bLo .nil pass0) (pa_cons (pe_meth0 (pe_dget hu (pv 3) pe_str (fun _ _ => rfl)) T.clC T.mIsOpen GIs hr1 bIs .nil pass0) pa_nil))))
        (pss_cons (ps_expr (pe_bm PySem.F.plainAttrs_list PySem.F.slot_list_extend PySem.F.type_list_extend mt_extend (pv 7) (pa_cons (pe_lock (pe_lc (own := [("_law_one", 11)]) (g := gName 11) (tt := tYes) (te := tRow z) rfl scLaw.nd (pi_values (pe_dget hu (pv 3) pe_str (fun _ _ => rfl))) (blkOk_by (N := nLaw) (sc := defScope sLaw) (by decide +kernel))
          (fun _ _ _ _ _ => pg_name (i := 11) scLaw.nd rfl (Or.inl rfl)) (fun _ _ _ _ _ => pts_nil) (fun _ _ _ _ _ => pe_lst (pa_cons (pe_meth0 (pv 11) T.clD T.mRight GRi hr1 bRi .nil pass0) (pa_cons (pe_meth0 (pv 11) T.clD T.mSeen GSe hr1 bSe .nil pass0) pa_nil))))) pa_nil)))
        (pss_cons (ps_setLc (i := 9) (own := [("_law_at", 8), ("_law_word", 12)]) (g := gTup K 2 (gCons (gName 8) (gCons (gName 12) gNil))) (tt := tTest (tOp (rI0 fun i j => .bl (decide (i < j))) (tOp (rIxT K) (tVar 12) (tC (.int 1))) (tMeth z.C "times" (spTimes z) [] E0 (tDGet (tVar 3) (tC (.str "keeper"))) tNil))) (te := tVar 8)
          rfl scLaw.nd rfl rfl (sw_true rfl rfl rfl (by decide +kernel)) (pi_enum (by rfl) T.bEnum (pa_cons (pe_dget hu (pv 3) pe_str (fun _ _ => rfl)) pa_nil)) (blkOk_by (N := nLaw) (sc := defScope sLaw) (by decide +kernel))
          (fun _ _ _ _ _ => pg_tup rfl (pgs_cons (pg_name (i := 8) scLaw.nd rfl (Or.inl rfl)) (pgs_cons (pg_name (i := 12) scLaw.nd rfl (Or.inl rfl)) pgs_nil)))
          (fun _ _ _ _ _ => pts_one (pt_cmpR op_lt (pe_ix ix_tup (pv 12) pe_int (fun _ _ => rfl)) (pe_meth0 (pe_dget hu (pv 3) pe_str (fun _ _ => rfl)) T.clC T.mTimes GTi hr1 bTi .nil pass0) (nomark _)))
          (fun _ _ _ _ _ => pv 8))
        (pss_cons (ps_for PassesOwn.never rfl (pi_list (pe_slice sl_list (pv 9) (po_some (pe_un un_neg pe_int)) po_none)) (pg_name (i := 8) scLaw.nd rfl (Or.inl rfl))
          (pss_one (ps_if (pt_not (pt_val (pe_call GCo hr4 (by rfl) T.mgCome T.kCome bCo .nil pass0 (pa_cons (pv 3) (pa_cons (pv 8) pa_nil))))) (pss_one (ps_ret pe_bl)) pss_nil)))
        (pss_cons (ps_set (i := 10) scLaw.nd rfl (Or.inl rfl) (pe_lst (pa_cons (pe_meth0 (pe_dget hu (pv 3) pe_str (fun _ _ => rfl)) T.clC T.mLocked GLo hr1 bLo .nil pass0) (pa_cons (pe_meth0 (pe_dget hu (pv 3) pe_str (fun _ _ => rfl)) T.clC T.mIsOpen GIs hr1 bIs .nil pass0) pa_nil))))
        (pss_cons (ps_expr (pe_bm PySem.F.plainAttrs_list PySem.F.slot_list_extend PySem.F.type_list_extend mt_extend (pv 10) (pa_cons (pe_lock (pe_lc (own := [("_law_one", 11)]) (g := gName 11) (tt := tYes) (te := tRow z) rfl scLaw.nd (pi_values (pe_dget hu (pv 3) pe_str (fun _ _ => rfl))) (blkOk_by (N := nLaw) (sc := defScope sLaw) (by decide +kernel))
          (fun _ _ _ _ _ => pg_name (i := 11) scLaw.nd rfl (Or.inl rfl)) (fun _ _ _ _ _ => pts_nil) (fun _ _ _ _ _ => pe_lst (pa_cons (pe_meth0 (pv 11) T.clD T.mRight GRi hr1 bRi .nil pass0) (pa_cons (pe_meth0 (pv 11) T.clD T.mSeen GSe hr1 bSe .nil pass0) pa_nil))))) pa_nil)))
        (pss_one (ps_if (pt_cmpR (op_neD hr.units) (pv 10) (pv 7) (nomark _)) (pss_one (ps_ret pe_bl)) pss_nil)))))))))))
      (pss_one (ps_ret pe_bl)))))), ?_⟩
    -- the box, the names
    refine ⟨_, rfl, a, ns, 0, rfl, hS, by decide, fun n0 => ⟨n0, rfl, fun bx0 H1 hb0 hB0 f1 => ?_⟩⟩
    refine ⟨_, rfl, _, rfl, bx0, 2, 0, rfl, hB0, by decide, by decide, by decide, fun d H2 da db hB2 f2 => ⟨1, d, rfl, rfl, bx0, 1 + d, 0 + 1, rfl, hB2, by decide, by omega, fun nl nms H3 hnl en lnl so f3 => ?_⟩⟩
    have s3 : Same H H3 := same_fr (same_fr f1 f2 fun x h => by rw [List.mem_singleton.mp h]; exact hb0) f3 fun x h => by rw [List.mem_singleton.mp h]; exact hb0
    have hS3 := s3.seq hS
    have en3 : H3 nl = some (.lst (nms.map V.str)) := en
    -- the state
    refine fun pS hpS k dk nk ndk nek => ⟨k, dk, rfl, upd_same, fun H4 hK f4 => ⟨rfl, fun hd hhd => ⟨(by show 0 ≤ sizeLine; decide), fun wl hwl => ?_⟩⟩⟩
    have sA : Same (upd H3 pS (.dK [])) H4 := fun b o e => f4 b o (by rw [upd_ne (ne_of_none e nk), upd_ne (ne_of_none e ndk)]; exact e) (not_one (ne_of_none e nk))
    have eS4 : H4 pS = some (.dK []) := sA _ _ upd_same
    have nSh : pS ≠ hd := ne_of_none eS4 hhd
    have nhw : hd ≠ wl := ne_of_none upd_same hwl
    have nSw : pS ≠ wl := ne_of_none (by rw [upd_ne nSh]; exact eS4) hwl
    have hwl4 : H4 wl = none := by rw [upd_ne nhw.symm] at hwl; exact hwl
    have hk3 : H3 k = none := by
      by_cases c : k = pS
      · rw [c]; exact hpS
      · rw [upd_ne c] at nk; exact nk
    refine ⟨(by rw [upd_ne nSw, upd_ne nSh]; exact eS4), stK (locOf pS k hd wl [] fun _ => pS) .non, rfl, (by show 4 ≤ 15; decide), ?_⟩
    rw [merge_state]
    have s4 : Same H3 H4 := (Fr.nil ((Fr.same (Same.refl H3)).upd_new hpS)).trans sA
    have f6 : Fr H4 (upd (upd (upd H4 hd (.dK [])) wl (.lst [])) pS (.dK (stK (locOf pS k hd wl [] fun _ => pS) .non))) [pS] := ((((Fr.same (Same.refl H4)).upd_new hhd).upd_new hwl4).upd_in List.mem_cons_self)
    have s6 : Same H3 (upd (upd (upd H4 hd (.dK [])) wl (.lst [])) pS (.dK (stK (locOf pS k hd wl [] fun _ => pS) .non))) := same_fr s4 f6 fun x h => by rw [List.mem_singleton.mp h]; exact hpS
    have hhd3 := s4.free hhd
    have hwl3 := s4.free hwl4
    have R6 : Rep z (upd (upd (upd H4 hd (.dK [])) wl (.lst [])) pS (.dK (stK (locOf pS k hd wl [] fun _ => pS) .non))) (locOf pS k hd wl [] fun _ => pS) init := by
      refine ⟨⟨.non, upd_same, rfl⟩, ?_, ?_, (fun n h => by cases h), [], ?_, .nil⟩
      · have hK' := hK
        obtain ⟨_, _, ek, _⟩ := hK'
        exact hK.fr f6 (not_one (ne_of ek eS4 (by intro q; cases q))) (one_tup eS4 fun xs e => by cases e)
      · show upd _ _ _ hd = _
        rw [upd_ne nSh.symm, upd_ne nhw, upd_same]
        rfl
      · show upd _ _ _ wl = _
        rw [upd_ne nSw.symm, upd_same]
        rfl
    generalize upd (upd (upd H4 hd (.dK [])) wl (.lst [])) pS (.dK (stK (locOf pS k hd wl [] fun _ => pS) .non)) = H6 at s6 R6 ⊢
    -- the rights
    refine ⟨_, rfl, nl, rfl, ⟨_, SqL.of (s6 _ _ en3)⟩, for_list (K := K) (a := nl) (xs := nms.map V.str) (fun i σ H' => (∃ v4 : Option V, σ = [some (.ref a), some (.ref bx0), some (.ref nl), some (.ref pS), v4, none, none, none, none, none, none, none, none]) ∧ Same H3 H' ∧
      ∃ (ds : List Str) (ha : Str → Addr), ds.length ≤ i ∧ (∀ x ∈ ds, x ∈ nms) ∧ (∀ x ∈ nms.take i, x ∈ ds) ∧ Rep z H' (locOf pS k hd wl ds ha) init ∧ ds.Nodup ∧ (∀ x ∈ ds, ∀ y ∈ ds, ha x = ha y → x = y) ∧ (∀ x ∈ ds, ha x ≠ k) ∧ ∀ x ∈ ds, H3 (ha x) = none) ?_ ?_ ?_ ?_⟩
    · exact ⟨⟨none, rfl⟩, s6, [], fun _ => pS, Nat.le_refl _, (fun x h => by cases h), (fun x h => by cases h), R6, List.nodup_nil, (fun x h => by cases h), (fun x h => by cases h), fun x h => by cases h⟩
    · exact fun i σ H' _ p => SqL.of (p.2.1 _ _ en3)
    · rintro i y σ H' hi ⟨⟨v4, rfl⟩, sH, ds, ha, d1, d2, d3, R, dn, di, dk1, df⟩
      obtain ⟨p, hp, rfl⟩ : ∃ p, nms[i]? = some p ∧ y = .str p := by
        rw [List.getElem?_map] at hi
        cases e : nms[i]? with
        | none =>
          rw [e] at hi
          cases hi
        | some p =>
          rw [e] at hi
          exact ⟨p, rfl, (Option.some.inj hi).symm⟩
      have hil : i < nms.length := (List.getElem?_eq_some_iff.mp hp).1
      refine fun h dh nh ndh neh => ⟨h, dh, rfl, upd_same, fun H7 hH f7 => ⟨rfl, ?_⟩⟩
      have s7 : Same H' H7 := fun b o e => f7 b o (by rw [upd_ne (ne_of_none e nh), upd_ne (ne_of_none e ndh)]; exact e) (not_one (ne_of_none e nh))
      have R7 := R.same s7
      obtain ⟨⟨uv7, eS7, oU7⟩, kp7, ehd7, hho7, as7, ew7, wa7⟩ := id R7
      refine ⟨_, rfl, pS, _, rfl, get_holders eS7, _, rfl, hd, _, rfl, DPut.k (k := (Sum.inr p : Key)) ehd7 (by show (ds.map _).length < _; rw [List.length_map]; exact small1000 (by omega)), ?_⟩
      rw [put_holder]
      have f8 : Fr H7 (upd H7 hd (.dK (hdK (locOf pS k hd wl (if p ∈ ds then ds else ds ++ [p]) (fset ha p h))))) [hd] := Fr.one
      have t8 := one_tup (a := hd) ehd7 (fun xs e => by cases e)
      have mem : ∀ {x}, x ∈ (if p ∈ ds then ds else ds ++ [p]) → x = p ∨ (x ≠ p ∧ x ∈ ds) := fun {x} hx => by
        by_cases c : x = p
        · exact .inl c
        · refine .inr ⟨c, ?_⟩
          by_cases q : p ∈ ds
          · rw [if_pos q] at hx
            exact hx
          · rw [if_neg q] at hx
            rcases List.mem_append.mp hx with m | m
            · exact m
            · exact absurd (List.mem_singleton.mp m) c
      have memp : p ∈ (if p ∈ ds then ds else ds ++ [p]) := by
        by_cases q : p ∈ ds
        · rw [if_pos q]; exact q
        · rw [if_neg q]; exact List.mem_append_right _ List.mem_cons_self
      have memd : ∀ {x}, x ∈ ds → x ∈ (if p ∈ ds then ds else ds ++ [p]) := fun {x} hx => by
        by_cases q : p ∈ ds
        · rw [if_pos q]; exact hx
        · rw [if_neg q]; exact List.mem_append_left _ hx
      have old : ∀ {x}, x ∈ ds → ha x ≠ h := fun {x} hx e => by
        obtain ⟨_, _, _, eh, _⟩ := R.ho x hx
        have eh : H' (ha x) = _ := eh
        rw [e, nh] at eh
        cases eh
      refine ⟨⟨_, rfl⟩, same_fr (sH.trans s7) f8 (fun x hx => by rw [List.mem_singleton.mp hx]; exact hhd3), _, fset ha p h, ?_, ?_, ?_, ⟨⟨uv7, f8 _ _ eS7 (not_one nSh), oU7.fr f8 t8⟩, kp7.fr f8 (not_one ?_) t8, upd_same, ?_, as7, f8 _ _ ew7 (not_one (Ne.symm nhw)), wa7.fr f8 t8⟩, ?_, ?_, ?_, ?_⟩
      · by_cases q : p ∈ ds
        · rw [if_pos q]; omega
        · rw [if_neg q, List.length_append]; show ds.length + 1 ≤ i + 1; omega
      · intro x hx
        rcases mem hx with m | ⟨_, m⟩
        · rw [m]; exact List.mem_of_getElem? hp
        · exact d2 x m
      · intro x hx
        rw [List.take_add_one, hp] at hx
        rcases List.mem_append.mp hx with m | m
        · exact memd (d3 x m)
        · have m : x ∈ [p] := m
          rw [List.mem_singleton.mp m]; exact memp
      · obtain ⟨_, _, ek, _⟩ := id kp7
        exact ne_of ek ehd7 (by intro q; cases q)
      · intro x hx
        show HoldAt z.D _ (fset ha p h x) 0 none
        rcases mem hx with m | ⟨c, m⟩
        · rw [m, fset_same]
          have hH' := hH
          obtain ⟨_, _, _, eh, _⟩ := hH'
          exact hH.fr f8 (not_one (ne_of eh ehd7 (by intro q; cases q))) t8
        · rw [fset_ne c]
          have q : HoldAt z.D H7 (ha x) 0 none := hho7 x m
          obtain ⟨_, _, _, eh, _⟩ := id q
          exact q.fr f8 (not_one (ne_of eh ehd7 (by intro q; cases q))) t8
      · by_cases q : p ∈ ds
        · rw [if_pos q]; exact dn
        · rw [if_neg q]; exact nd_snoc dn q
      · intro x hx y hy e
        rcases mem hx with m | ⟨c, m⟩
        · rcases mem hy with m' | ⟨c', m'⟩
          · rw [m, m']
          · rw [m, fset_same, fset_ne c'] at e
            exact absurd e.symm (old m')
        · rcases mem hy with m' | ⟨c', m'⟩
          · rw [m', fset_same, fset_ne c] at e
            exact absurd e (old m)
          · rw [fset_ne c, fset_ne c'] at e
            exact di x m y m' e
      · intro x hx
        rcases mem hx with m | ⟨c, m⟩
        · rw [m, fset_same]
          obtain ⟨_, _, ek, _⟩ := R.kp
          have ek : H' k = _ := ek
          exact (ne_of_none ek nh).symm
        · rw [fset_ne c]; exact dk1 x m
      · intro x hx
        rcases mem hx with m | ⟨c, m⟩
        · rw [m, fset_same]; exact sH.free nh
        · rw [fset_ne c]; exact df x m
    rintro σ H' ⟨⟨v4, rfl⟩, sH, ds, ha, d1, d2, d3, R, dn, di, dk1, df⟩
    rw [List.length_map] at d1 d3
    rw [List.take_length] at d3
    have S : Sta (locOf pS k hd wl ds ha) := ⟨dn, di, dk1, nSh, by show ds.length ≤ 2; omega, fun p hp => so p (d2 p hp)⟩
    have hin : ∀ x ∈ nms, x ∈ (locOf pS k hd wl ds ha).nms := d3
    have hchg : ∀ x ∈ chg (locOf pS k hd wl ds ha), H3 x = none := fun x h => by
      rcases List.mem_cons.mp h with h | h
      · rw [h]; exact hpS
      rcases List.mem_cons.mp h with h | h
      · rw [h]; exact hk3
      rcases List.mem_cons.mp h with h | h
      · rw [h]; exact hwl3
      obtain ⟨n, hn, rfl⟩ := List.mem_map.mp h
      exact df n hn
    have eSl : (locOf pS k hd wl ds ha).S = pS := rfl
    have ewl : (locOf pS k hd wl ds ha).w = wl := rfl
    generalize locOf pS k hd wl ds ha = l at S hin hchg R eSl ewl
    subst eSl ewl
    clear d1 d2 d3 dn di dk1 df R6 s6 f6 sA
    -- the cells
    obtain ⟨J1, J2⟩ := turns_ok (n := ((ns.map V.int).length : Int)) (by omega)
    refine ⟨_, rfl, a, _, rfl, .inl (sH.seq hS3), _, 61, rfl, 3, _, rfl, 1, _, rfl, ⟨by decide, by decide, by omega, by omega⟩, ?_⟩
    generalize (if (if (61 : Int) < ((ns.map V.int).length : Int) then 61 else ((ns.map V.int).length : Int)) > 3 then (if (61 : Int) < ((ns.map V.int).length : Int) then 61 else ((ns.map V.int).length : Int)) else 3) = J at J1 J2 ⊢
    refine for_range (lo := 1) (n := (J - 1).toNat) (fun i σ H' => (∃ b, Slots a b nl l.S σ) ∧ Same H3 H' ∧ ∃ m, Rep z H' l m ∧ Ok l.nms m ∧ m.t ≤ ((5 * i : Nat) : Int) ∧ m.ws.length ≤ 5 * i) ?_ ?_ ?_
    · exact ⟨⟨bx0, v4, none, none, none, none, none, none, rfl⟩, sH, init, R, ok_init _, Int.le_refl _, Nat.le_refl _⟩
    · rintro i σ H7 hi ⟨⟨b0, w4, w5, w6, w7, w8, w9, w10, rfl⟩, s7, m0, R7, O7, t7, c7⟩
      have hi60 : i < 60 := by omega
      -- the cell's box
      refine ⟨_, rfl, _, rfl, a, ns, 1 + (i : Int), rfl, s7.seq hS3, by omega, fun n1 => ⟨n1, rfl, fun bx H8 hbx hB8 f8 => ?_⟩⟩
      have R8 := R7.same f8
      have s8 := s7.trans f8
      have hbx3 := s7.free hbx
      have nbw : bx ≠ l.w := fun e => by
        obtain ⟨_, _, _, _, as, ew, _⟩ := R7
        rw [← e, hbx] at ew
        cases ew
      have nnb : nl ≠ bx := ne_of_none (s7 _ _ en3) hbx
      refine ⟨_, rfl, bx, 5, 0, rfl, hB8, by decide, by decide, by decide, fun d5 H9 d5a d5b hB9 f9 => ⟨1, d5, rfl, rfl, 1 + d5, rfl, by omega, by omega, ?_⟩⟩
      have s9 := same_fr s8 f9 fun x h => by rw [List.mem_singleton.mp h]; exact hbx3
      have R9 := R8.box hB8 nbw f9
      refine for_range (lo := 0) (n := (1 + d5).toNat) (fun j σ H' => Slots a bx nl l.S σ ∧ Same H3 H' ∧ BoxAt H' bx (1 + 4 * (j : Int)) ∧ ∃ m, Rep z H' l m ∧ Ok l.nms m ∧ m.t ≤ ((5 * i + j : Nat) : Int) ∧ m.ws.length ≤ 5 * i + j) ?_ ?_ ?_
      · exact ⟨⟨_, _, _, _, _, _, _, rfl⟩, s9, hB9.mono (by omega), m0, R9, O7, t7, c7⟩
      · rintro j σ H10 hj ⟨⟨x4, x5, x6, x7, x8, x9, x10, rfl⟩, s10, hB10, m1, R10, O10, t10, c10⟩
        refine ⟨_, rfl, _, rfl, _, rfl, bx, nl, l, m1, nms, 1 + 4 * (j : Int), 5 * i + j, rfl, S, R10, O10, hB10, by omega, s10 _ _ en3, by omega, by omega, hin, nbw, nnb, t10, c10, by omega, fun m2 H11 O11 D11 => ⟨true, rfl, iteF ?_⟩⟩
        refine ⟨_, rfl, l, m2, rfl, S, D11.rep, O11, fun H12 f12 => ⟨true, rfl, iteF ?_⟩⟩
        have D12 := D11.same f12
        refine ⟨⟨_, _, _, _, _, _, _, rfl⟩, same_fr s10 D12.fr (fun x h => ?_), D12.box.mono (by omega), m2, D12.rep, O11, by have := D12.tim; omega, by have := D12.wds; omega⟩
        rcases List.mem_cons.mp h with h | h
        · rw [h]; exact hbx3
        · exact hchg x h
      · rintro σ H10 ⟨⟨x4, x5, x6, x7, x8, x9, x10, rfl⟩, s10, _, m, R10, O, t10, c10⟩
        have t11 : m.t ≤ ((5 * (i + 1) : Nat) : Int) := by omega
        have c11 : m.ws.length ≤ 5 * (i + 1) := by omega
        -- what is told
        dsimp only
        refine seq_of (asg_of ?_)
        refine told_made (z := z) (σ := [some (.ref a), some (.ref bx), some (.ref nl), some (.ref l.S), x4, x5, x6, x7, x8, x9, x10, none, none]) (H := H10) rfl R10 fun lv t H11 ht et ol f11 => ?_
        dsimp only
        refine seq_of ?_
        refine told_ext (K := K) (z := z) (i := 7) (σ := [some (.ref a), some (.ref bx), some (.ref nl), some (.ref l.S), x4, x5, x6, some (.ref t), x8, x9, x10, none, none]) (H := H11) rfl rfl (fun _ => rfl) (fun _ => rfl) S R10 f11 ht et ol fun H12 f12 T12 => ?_
        have s12 := s10.trans f12
        have R12 := R10.same f12
        -- the old words
        obtain ⟨⟨uv12, eS12, oU12⟩, kp12, ehd12, hho12, as12, ew12, wa12⟩ := id R12
        have l12 : as12.length = m.ws.length := words_len wa12
        refine ⟨_, rfl, l.S, _, rfl, get_words eS12, l.w, _, rfl, SqL.of ew12, fun D hD => ?_⟩
        refine lc_it (walk_enum (K := K) (a := l.w) (xs := as12.map V.ref)) (fun i H' => Same H12 H' ∧ ∃ js : List Nat, H' D = some (.lst (js.map fun (j : Nat) => V.int (j : Int))) ∧ js.length ≤ i ∧ ∀ j ∈ js, ∃ x, m.ws[j]? = some x ∧ x.2.1 < m.t) ?_ ?_ ?_ ?_
        · exact ⟨Fr.nil ((Fr.same (Same.refl _)).upd_new hD), [], upd_same, Nat.le_refl _, fun j h => by cases h⟩
        · exact fun i H' _ p => SqL.of (p.1 _ _ ew12)
        · rintro i2 x H13 H14 hi2 ⟨f13, js, hjs, hjl, hjo⟩ ⟨t0, x1, y1, rfl, nT, rfl, hx1, hy1⟩
          have hi3 : i2 < as12.length := by rw [List.length_map] at hi2; exact hi2
          have ex : x1 = .int (i2 : Nat) := (Option.some.inj hx1).symm
          obtain ⟨wa, hwa⟩ : ∃ wa, as12[i2]? = some wa := ⟨_, List.getElem?_eq_getElem hi3⟩
          have ey : y1 = .ref wa := by
            have h : (as12.map V.ref)[i2]? = some y1 := hy1
            rw [List.getElem?_map, hwa] at h
            exact (Option.some.inj h).symm
          subst ex ey
          obtain ⟨xw, hxw⟩ : ∃ xw, m.ws[i2]? = some xw := ⟨_, List.getElem?_eq_getElem (by omega)⟩
          obtain ⟨wa', hwa', hwt⟩ := words_at wa12 hxw
          rw [hwa] at hwa'
          cases hwa'
          have f14 : Same H13 (upd H13 t0 (.tup [.int (i2 : Nat), .ref wa])) := Fr.nil ((Fr.same (Same.refl _)).upd_new nT)
          have f15 := f13.trans f14
          have kp15 := kp12.same f15
          obtain ⟨dx15, v15, ek15, eo15⟩ := id kp15
          refine ⟨t0, _, rfl, SqT.of upd_same, rfl, _, _, rfl, _, _, rfl, rfl, rfl, ?_⟩
          refine ⟨_, rfl, wa, _, 1, _, rfl, rfl, SqT.of (f15 _ _ hwt), rfl, _, rfl, l.S, _, rfl, get_keeper (f15 _ _ eS12), l.k, dx15, _, rfl, ek15, kf_no (by decide +kernel) (by decide +kernel) (by decide +kernel), l.k, m.t, m.sh, m.op, rfl, kp15, xw.2.1, m.t, rfl, rfl, _, rfl, ?_⟩
          have hjs4 := f14 _ _ hjs
          refine ite2 (fun hlt => ?_) (fun _ => ?_)
          · refine ⟨_, rfl, _, hjs4, (by rw [List.length_map]; exact small1000 (by omega)), Fr.nil ((Fr.same f15).upd_new hD), js ++ [i2], ?_, ?_, ?_⟩
            · rw [upd_same, List.map_append]
              rfl
            · rw [List.length_append]; show js.length + 1 ≤ i2 + 1; omega
            · intro j hj
              rcases List.mem_append.mp hj with q | q
              · exact hjo j q
              · rw [List.mem_singleton.mp q]
                exact ⟨xw, hxw, of_decide_eq_true hlt⟩
          · exact ⟨f15, js, hjs4, by omega, hjo⟩
        rintro H13 ⟨f13, js, hjs, hjl, hjo⟩
        have T13 := T12.fr (c := []) (Fr.same f13) (fun _ h => absurd h (by simp)) (fun _ h => absurd h (by simp))
        have R13 := R12.same f13
        have s13 := s12.trans f13
        -- they come again
        refine ⟨_, rfl, 3, rfl, _, rfl, D, _, rfl, SqL.of hjs, fun p hp => ⟨p, rfl, ⟨_, SqL.of upd_same⟩, ?_⟩⟩
        have f14 : Same H13 (upd H13 p (.lst (cutV (js.map fun (j : Nat) => V.int (j : Int)) (some (-3)) none))) := Fr.nil ((Fr.same (Same.refl _)).upd_new hp)
        have hcut : ∀ y ∈ cutV (js.map fun (j : Nat) => V.int (j : Int)) (some (-3)) none, ∃ j : Nat, y = .int j ∧ j ∈ js := fun y hy => by
          unfold cutV at hy
          obtain ⟨j, hj, e⟩ := List.mem_map.mp (List.mem_of_mem_drop (List.mem_of_mem_take hy))
          exact ⟨j, e.symm, hj⟩
        have pout : p ∉ chg l := fun h => chg_there R13 p h hp
        refine for_list (K := K) (a := p) (xs := cutV (js.map fun (j : Nat) => V.int (j : Int)) (some (-3)) none) (fun i2 σ H' => (∃ v8 : Option V, σ = [some (.ref a), some (.ref bx), some (.ref nl), some (.ref l.S), x4, x5, x6, some (.ref t), v8, some (.ref D), x10, none, none]) ∧ Same H3 H' ∧ Rep z H' l m ∧ ToldAt H10 H' l m t ∧ H' p = some (.lst (cutV (js.map fun (j : Nat) => V.int (j : Int)) (some (-3)) none))) ?_ ?_ ?_ ?_
        · exact ⟨⟨_, rfl⟩, s13.trans f14, R13.same f14, T13.fr (c := []) (Fr.same f14) (fun _ h => absurd h (by simp)) (fun _ h => absurd h (by simp)), upd_same⟩
        · exact fun i2 σ H' _ q => SqL.of q.2.2.2.2
        · rintro i2 y σ H14 hi2 ⟨⟨v8, rfl⟩, s14, R14, T14, hp14⟩
          obtain ⟨j, rfl, hj⟩ := hcut y (List.mem_of_getElem? hi2)
          obtain ⟨xw, hxw, hlt⟩ := hjo j hj
          refine ⟨_, rfl, _, rfl, l, m, j, xw, rfl, S, R14, O, by omega, hxw, fun H15 R15 f15 => ⟨true, rfl, iteF ?_⟩⟩
          rw [come_old O (get_bound hxw) hlt] at R15
          exact ⟨⟨_, rfl⟩, same_fr s14 f15 hchg, R15, T14.fr f15 (chg_there R10) R14.chg_tup, f15 _ _ hp14 pout⟩
        rintro σ H14 ⟨⟨v8, rfl⟩, s14, R14, T14, _⟩
        -- what is told again
        dsimp only
        refine seq_of (asg_of ?_)
        refine told_made (z := z) (σ := [some (.ref a), some (.ref bx), some (.ref nl), some (.ref l.S), x4, x5, x6, some (.ref t), v8, some (.ref D), x10, none, none]) (H := H14) rfl R14 fun lv2 t2 H15 ht2 et2 ol2 f15 => ?_
        dsimp only
        refine seq_of ?_
        refine told_ext (K := K) (z := z) (i := 10) (σ := [some (.ref a), some (.ref bx), some (.ref nl), some (.ref l.S), x4, x5, x6, some (.ref t), v8, some (.ref D), some (.ref t2), none, none]) (H := H15) rfl rfl (fun _ => rfl) (fun _ => rfl) S R14 f15 ht2 et2 ol2 fun H16 f16 T16 => ?_
        have T17 := T14.fr (c := []) (Fr.same f16) (fun _ h => absurd h (by simp)) (fun _ h => absurd h (by simp))
        obtain ⟨y1, y2⟩ := tdat_lay S O
        refine ⟨_, rfl, _, rfl, tdat l.nms m, tdat l.nms m, T16.dp, T17.dp, y2, y2, _, rfl, ?_⟩
        rw [SeqAt.eqv_refl _ y1]
        refine iteF ?_
        exact ⟨⟨bx, _, _, _, _, _, _, _, rfl⟩, s14.trans f16, m, R14.same f16, O, t11, c11⟩
    · rintro σ H7 _
      exact kq H7
end
end K23

/-! ### what the top has written; the end -/
namespace K23
open PySem PySem.Spec PyProof.Rows L2 K23x
/-- a def of the text stands at f -/
def FnAt (K : PySem.W.Frag) (f : Addr) (x q : Str) (st : Stmt) : Prop := (∃ (oc : Value) (od : Option Addr) (kV doc pm : Value) (an : Option Addr) (cdv ct : Value) (sl : Array (Option Value)),
  K.lookup f = some ⟨oc, od, .func (PySem.W.fnOf x q (defArgs st) (defBody st) (defScope st) .none kV doc pm an cdv ct), sl⟩ ∧ PySem.W.codeIn K cdv q = true) ∧ PySem.W.keepIn K (.ref f) = true
/-- an exception class straight under the one at S stands at e -/
def ExcAt (K : PySem.W.Frag) (e S : Addr) : Prop := ∃ nm q N bs sn sub ab col dd k0 k1 k2 k3 k5,
  K.lookup e = some (excClassObj nm q e N bs [.ref S, .type "ValueError", .type "Exception", .type "BaseException", .type "object"] true sn sub ab col dd k0 k1 k2 k3 k5 "ValueError.__new__")
section
variable {K : PySem.W.Frag}
theorem fn_at {f : Addr} {x q : Str} {st : Stmt} {oc : Value} {od : Option Addr} {kV doc pm : Value} {an : Option Addr} {cdv ct : Value} {sl : Array (Option Value)}
    (e : K.lookup f = some ⟨oc, od, .func (PySem.W.fnOf x q (defArgs st) (defBody st) (defScope st) .none kV doc pm an cdv ct), sl⟩) (c : PySem.W.codeIn K cdv q = true) (k : PySem.W.keepIn K (.ref f) = true) : FnAt K f x q st := ⟨⟨_, _, _, _, _, _, _, _, _, e, c⟩, k⟩
theorem exc_at {e S : Addr} {nm q : Str} {N : Addr} {bs : List Value} {sn : List Str} {sub : List Value} {ab : Bool} {col : Option Bool} {dd : Option Addr} {k0 k1 k2 k3 k5 : Option Value}
    (h : K.lookup e = some (excClassObj nm q e N bs [.ref S, .type "ValueError", .type "Exception", .type "BaseException", .type "object"] true sn sub ab col dd k0 k1 k2 k3 k5 "ValueError.__new__")) : ExcAt K e S := ⟨_, _, _, _, _, _, _, _, _, _, _, _, _, _, h⟩
theorem fun_b {f : Addr} {x q : Str} {st : Stmt} {ps : List Str} (h : FnAt K f x q st)
    (hb : ∀ (kV doc pm : Value) (an : Option Addr) (cdv ct : Value) (us : List Value), us.length = ps.length → bindArgs (PySem.W.fnOf x q (defArgs st) (defBody st) (defScope st) .none kV doc pm an cdv ct) ⟨us, []⟩ = pure (ps.zip us)) : FunB K x q st f ps := by
  obtain ⟨⟨oc, od, kV, doc, pm, an, cdv, ct, sl, e, c⟩, k⟩ := h
  have F := fun_mk (st := st) e c k
  exact ⟨_, F, F.binds hb⟩
theorem ExcAt.ox {e S : Addr} (h : ExcAt K e S) (sa : PySem.W.findIn K (.ref e) "__setattr__" = some (some (.builtin "object.__setattr__"))) (ex : PySem.W.subIn K (.ref e) (.type "BaseException") = some true) (ty : PySem.W.typeIn K (.ref e) = some (.type "type"))
    (kc : PySem.W.keepIn K (.ref e) = true) : OexC K e := by
  obtain ⟨nm, q, N, bs, sn, sub, ab, col, dd, k0, k1, k2, k3, k5, e1⟩ := h
  exact ⟨⟨nm, q, N, bs, _, sn, sub, ab, col, dd, k0, k1, k2, k3, k5, e1, by rfl⟩, sa, ex, ty, kc⟩
theorem exm_three {cls c1 c2 c3 : Value} {b1 b2 b3 : Bool} (h1 : PySem.W.exmOne K cls c1 = some b1) (h2 : PySem.W.exmOne K cls c2 = some b2) (h3 : PySem.W.exmOne K cls c3 = some b3) : PySem.W.exmAny K cls [c1, c2, c3] = some (b1 || (b2 || (b3 || false))) := by
  unfold PySem.W.exmAny PySem.W.exmAny PySem.W.exmAny PySem.W.exmAny
  rw [h1, h2, h3]
end
/-- the law's own head: as the layer's end, with what the head says of a loose constant handed on -/
theorem to_walk {l : PySem.W.OpenLaw} {q : Program} {loose : List Str} {XP : (Str → Option Value) → Heap → Prop} {YP : World → Heap → Prop} {d : DefRec} {K : Params → PySem.W.Frag} (hn : l.most = some 63) (hdf : d.params.defaults = [])
    (hY : ∀ (w : World) (h : Heap), YP w h → (K w.params).In h)
    (F : ∀ (w : World) (mg : Str → Option Value) (fa : Addr) (h : Heap), XP mg h → (K w.params).In h → h.Ns mainGlobals mg → mg d.name = some (.ref fa) →
      ∃ fd : FuncData, (∀ (s : Shared) (u : Value), BindsTo s fd ⟨[u], []⟩ [("_law_script", u)]) ∧ ∀ base : Heap, (K w.params).In base → base.Ns mainGlobals mg → FnOk l.prog w (K w.params) mg base CX0 7 fa fd ["_law_script"] (spLaw (K w.params))) :
    PySem.W.WalkO q loose XP YP l.row.toRowW d [] (fun f vs => PySem.call f vs) := by
  apply Att.attach_call hn hdf
  intro w s0 s1 mg mb fa o pm cd doc a vs ns G Y _ _ _ hmg hobj hints hlen hg
  obtain ⟨fd, hb, hF⟩ := F w mg fa _ G.X (hY w _ Y) G.T.g hmg
  exact law_call (hY w _ Y) G.T.g G.T.b G.T.builtins G.T.nolimit hg hobj hints (Nat.le_trans hlen (by decide)) ⟨rfl, by decide, by decide⟩ hF hb (fun H _ hS => ⟨a, ns, rfl, hS, hlen, fun _ => rfl⟩) fun _ _ _ z => z
theorem all_mk {l : PySem.W.OpenLaw} {w : World} {K : PySem.W.Frag} {h : Heap} {mg : Str → Option Value} {fa C D S eSh eNR eNS iSh iNR iNS fW kI kLock kLocked kThis kOpens kIsOpen kGo kUnlock kEnded kTimes hI hGot hRight hUse hGive hNote hSeen lCell lBox lTake lNames lTried lCome lDone lSafe lLaw : Addr} (X : K.In h) (G : h.Ns mainGlobals mg) (hfa : mg "law" = some (.ref fa)) (hGr : ∃ t, mg "GREATEST" = some (.int (10 ^ 30) t))
    (gC : PySem.W.nsIn K mainGlobals "Keeper" = some (some (.ref C)))
    (pgC : PySem.W.plainGet K C Str.empty = true)
    (hdC : PySem.W.hasDictIn K C = true)
    (poC : PySem.W.plainOver K C = true)
    (saC : PySem.W.findIn K (.ref C) "__setattr__" = some (some (.builtin "object.__setattr__")))
    (mkC : PySem.W.makesIn K C = true)
    (kcC : PySem.W.keepIn K (.ref C) = true)
    (nCkept_times : PySem.W.findIn K (.ref C) "kept_times" = some none)
    (nCkept_shut : PySem.W.findIn K (.ref C) "kept_shut" = some none)
    (nCkept_open : PySem.W.findIn K (.ref C) "kept_open" = some none)
    (gD : PySem.W.nsIn K mainGlobals "Holder" = some (some (.ref D)))
    (pgD : PySem.W.plainGet K D Str.empty = true)
    (hdD : PySem.W.hasDictIn K D = true)
    (poD : PySem.W.plainOver K D = true)
    (saD : PySem.W.findIn K (.ref D) "__setattr__" = some (some (.builtin "object.__setattr__")))
    (mkD : PySem.W.makesIn K D = true)
    (kcD : PySem.W.keepIn K (.ref D) = true)
    (nDkept_greatest : PySem.W.findIn K (.ref D) "kept_greatest" = some none)
    (nDkept_right : PySem.W.findIn K (.ref D) "kept_right" = some none)
    (nDkept_note : PySem.W.findIn K (.ref D) "kept_note" = some none)
    (gS : PySem.W.nsIn K mainGlobals "StaffError" = some (some (.ref S)))
    (rdS : PySem.W.readsIn K S (.type "type") = true)
    (gaS : PySem.W.specialIn K (.ref S) "__getattribute__" = some (some (.builtin "type.__getattribute__")))
    (inS : PySem.W.findCls K (.ref S) (.type "type") "__init__" = some (.val (.builtin "ValueError.__init__")))
    (geSh : PySem.W.nsIn K mainGlobals "Shut" = some (some (.ref eSh)))
    (xeSh : ExcAt K eSh S)
    (saeSh : PySem.W.findIn K (.ref eSh) "__setattr__" = some (some (.builtin "object.__setattr__")))
    (exeSh : PySem.W.subIn K (.ref eSh) (.type "BaseException") = some true)
    (tyeSh : PySem.W.typeIn K (.ref eSh) = some (.type "type"))
    (kceSh : PySem.W.keepIn K (.ref eSh) = true)
    (hdeSh : PySem.W.hasDictIn K eSh = true)
    (nfeSh : PySem.W.findIn K (.ref eSh) "found" = some none)
    (geNR : PySem.W.nsIn K mainGlobals "NoRight" = some (some (.ref eNR)))
    (xeNR : ExcAt K eNR S)
    (saeNR : PySem.W.findIn K (.ref eNR) "__setattr__" = some (some (.builtin "object.__setattr__")))
    (exeNR : PySem.W.subIn K (.ref eNR) (.type "BaseException") = some true)
    (tyeNR : PySem.W.typeIn K (.ref eNR) = some (.type "type"))
    (kceNR : PySem.W.keepIn K (.ref eNR) = true)
    (hdeNR : PySem.W.hasDictIn K eNR = true)
    (nfeNR : PySem.W.findIn K (.ref eNR) "found" = some none)
    (geNS : PySem.W.nsIn K mainGlobals "NotShut" = some (some (.ref eNS)))
    (xeNS : ExcAt K eNS S)
    (saeNS : PySem.W.findIn K (.ref eNS) "__setattr__" = some (some (.builtin "object.__setattr__")))
    (exeNS : PySem.W.subIn K (.ref eNS) (.type "BaseException") = some true)
    (tyeNS : PySem.W.typeIn K (.ref eNS) = some (.type "type"))
    (kceNS : PySem.W.keepIn K (.ref eNS) = true)
    (hdeNS : PySem.W.hasDictIn K eNS = true)
    (nfeNS : PySem.W.findIn K (.ref eNS) "found" = some none)
    (seSheSh : PySem.W.subIn K (.ref eSh) (.ref eSh) = some true)
    (seSheNR : PySem.W.subIn K (.ref eSh) (.ref eNR) = some false)
    (seSheNS : PySem.W.subIn K (.ref eSh) (.ref eNS) = some false)
    (seNReSh : PySem.W.subIn K (.ref eNR) (.ref eSh) = some false)
    (seNReNR : PySem.W.subIn K (.ref eNR) (.ref eNR) = some true)
    (seNReNS : PySem.W.subIn K (.ref eNR) (.ref eNS) = some false)
    (seNSeSh : PySem.W.subIn K (.ref eNS) (.ref eSh) = some false)
    (seNSeNR : PySem.W.subIn K (.ref eNS) (.ref eNR) = some false)
    (seNSeNS : PySem.W.subIn K (.ref eNS) (.ref eNS) = some true)
    (aiSh : PySem.W.findIn K (.ref eSh) "__init__" = some (some (.ref iSh)))
    (iiSh : PySem.W.typeIn K (.ref iSh) = some (.type "function"))
    (liSh : FnAt K iSh "__init__" "Shut.__init__" sShutI)
    (aiNR : PySem.W.findIn K (.ref eNR) "__init__" = some (some (.ref iNR)))
    (iiNR : PySem.W.typeIn K (.ref iNR) = some (.type "function"))
    (liNR : FnAt K iNR "__init__" "NoRight.__init__" sNoRI)
    (aiNS : PySem.W.findIn K (.ref eNS) "__init__" = some (some (.ref iNS)))
    (iiNS : PySem.W.typeIn K (.ref iNS) = some (.type "function"))
    (liNS : FnAt K iNS "__init__" "NotShut.__init__" sNotSI)
    (afW : PySem.W.nsIn K mainGlobals "is_whole" = some (some (.ref fW)))
    (lfW : FnAt K fW "is_whole" "is_whole" sWhole)
    (akI : PySem.W.findIn K (.ref C) "__init__" = some (some (.ref kI)))
    (ikI : PySem.W.isFn K (.ref kI) = true)
    (lkI : FnAt K kI "__init__" "Keeper.__init__" sKI)
    (akLock : PySem.W.findIn K (.ref C) "lock" = some (some (.ref kLock)))
    (ikLock : PySem.W.isFn K (.ref kLock) = true)
    (lkLock : FnAt K kLock "lock" "Keeper.lock" sLock)
    (akLocked : PySem.W.findIn K (.ref C) "locked" = some (some (.ref kLocked)))
    (ikLocked : PySem.W.isFn K (.ref kLocked) = true)
    (lkLocked : FnAt K kLocked "locked" "Keeper.locked" sLocked)
    (akThis : PySem.W.findIn K (.ref C) "is_this" = some (some (.ref kThis)))
    (ikThis : PySem.W.isFn K (.ref kThis) = true)
    (lkThis : FnAt K kThis "is_this" "Keeper.is_this" sThis)
    (akOpens : PySem.W.findIn K (.ref C) "opens" = some (some (.ref kOpens)))
    (ikOpens : PySem.W.isFn K (.ref kOpens) = true)
    (lkOpens : FnAt K kOpens "opens" "Keeper.opens" sOpens)
    (akIsOpen : PySem.W.findIn K (.ref C) "is_open" = some (some (.ref kIsOpen)))
    (ikIsOpen : PySem.W.isFn K (.ref kIsOpen) = true)
    (lkIsOpen : FnAt K kIsOpen "is_open" "Keeper.is_open" sIsOpen)
    (akGo : PySem.W.findIn K (.ref C) "let_go" = some (some (.ref kGo)))
    (ikGo : PySem.W.isFn K (.ref kGo) = true)
    (lkGo : FnAt K kGo "let_go" "Keeper.let_go" sLetGo)
    (akUnlock : PySem.W.findIn K (.ref C) "unlock" = some (some (.ref kUnlock)))
    (ikUnlock : PySem.W.isFn K (.ref kUnlock) = true)
    (lkUnlock : FnAt K kUnlock "unlock" "Keeper.unlock" sUnlock)
    (akEnded : PySem.W.findIn K (.ref C) "ended" = some (some (.ref kEnded)))
    (ikEnded : PySem.W.isFn K (.ref kEnded) = true)
    (lkEnded : FnAt K kEnded "ended" "Keeper.ended" sEnded)
    (akTimes : PySem.W.findIn K (.ref C) "times" = some (some (.ref kTimes)))
    (ikTimes : PySem.W.isFn K (.ref kTimes) = true)
    (lkTimes : FnAt K kTimes "times" "Keeper.times" sTimes)
    (ahI : PySem.W.findIn K (.ref D) "__init__" = some (some (.ref hI)))
    (ihI : PySem.W.isFn K (.ref hI) = true)
    (lhI : FnAt K hI "__init__" "Holder.__init__" sHI)
    (ahGot : PySem.W.findIn K (.ref D) "got" = some (some (.ref hGot)))
    (ihGot : PySem.W.isFn K (.ref hGot) = true)
    (lhGot : FnAt K hGot "got" "Holder.got" sGot)
    (ahRight : PySem.W.findIn K (.ref D) "right" = some (some (.ref hRight)))
    (ihRight : PySem.W.isFn K (.ref hRight) = true)
    (lhRight : FnAt K hRight "right" "Holder.right" sRight)
    (ahUse : PySem.W.findIn K (.ref D) "use" = some (some (.ref hUse)))
    (ihUse : PySem.W.isFn K (.ref hUse) = true)
    (lhUse : FnAt K hUse "use" "Holder.use" sUse)
    (ahGive : PySem.W.findIn K (.ref D) "give" = some (some (.ref hGive)))
    (ihGive : PySem.W.isFn K (.ref hGive) = true)
    (lhGive : FnAt K hGive "give" "Holder.give" sGive)
    (ahNote : PySem.W.findIn K (.ref D) "note" = some (some (.ref hNote)))
    (ihNote : PySem.W.isFn K (.ref hNote) = true)
    (lhNote : FnAt K hNote "note" "Holder.note" sNote)
    (ahSeen : PySem.W.findIn K (.ref D) "seen" = some (some (.ref hSeen)))
    (ihSeen : PySem.W.isFn K (.ref hSeen) = true)
    (lhSeen : FnAt K hSeen "seen" "Holder.seen" sSeen)
    (alCell : PySem.W.nsIn K mainGlobals "_law_cell" = some (some (.ref lCell)))
    (llCell : FnAt K lCell "_law_cell" "_law_cell" sCell)
    (alBox : PySem.W.nsIn K mainGlobals "_law_box" = some (some (.ref lBox)))
    (llBox : FnAt K lBox "_law_box" "_law_box" sBox)
    (alTake : PySem.W.nsIn K mainGlobals "_law_take" = some (some (.ref lTake)))
    (llTake : FnAt K lTake "_law_take" "_law_take" sTake)
    (alNames : PySem.W.nsIn K mainGlobals "_law_names" = some (some (.ref lNames)))
    (llNames : FnAt K lNames "_law_names" "_law_names" sNames)
    (alTried : PySem.W.nsIn K mainGlobals "_law_tried" = some (some (.ref lTried)))
    (llTried : FnAt K lTried "_law_tried" "_law_tried" sTried)
    (alCome : PySem.W.nsIn K mainGlobals "_law_come" = some (some (.ref lCome)))
    (llCome : FnAt K lCome "_law_come" "_law_come" sCome)
    (alDone : PySem.W.nsIn K mainGlobals "_law_done" = some (some (.ref lDone)))
    (llDone : FnAt K lDone "_law_done" "_law_done" sDone)
    (alSafe : PySem.W.nsIn K mainGlobals "_law_safe" = some (some (.ref lSafe)))
    (llSafe : FnAt K lSafe "_law_safe" "_law_safe" sSafe)
    (alLaw : PySem.W.nsIn K mainGlobals "law" = some (some (.ref lLaw)))
    (llLaw : FnAt K lLaw "law" "law" sLaw)
    (blen : PySem.W.nsIn K mainGlobals "len" = some none)
    (bmax : PySem.W.nsIn K mainGlobals "max" = some none)
    (bmin : PySem.W.nsIn K mainGlobals "min" = some none)
    (brange : PySem.W.nsIn K mainGlobals "range" = some none)
    (bisinstance : PySem.W.nsIn K mainGlobals "isinstance" = some none)
    (bint : PySem.W.nsIn K mainGlobals "int" = some none)
    (bbool : PySem.W.nsIn K mainGlobals "bool" = some none)
    (benumerate : PySem.W.nsIn K mainGlobals "enumerate" = some none) :
    ∃ fd : FuncData, (∀ (s : Shared) (v : Value), BindsTo s fd ⟨[v], []⟩ [("_law_script", v)]) ∧ ∀ base : Heap, K.In base → base.Ns mainGlobals mg → FnOk l.prog w K mg base CX0 7 fa fd ["_law_script"] (spLaw K) := by
  have e := hfa.symm.trans (PySem.W.mg_of X G alLaw)
  cases e
  let z : Adr := { C := C, D := D, S := S, eSh := eSh, eNR := eNR, eNS := eNS, iSh := iSh, iNR := iNR, iNS := iNS, fW := fW, kI := kI, kLock := kLock, kLocked := kLocked, kThis := kThis, kOpens := kOpens, kIsOpen := kIsOpen, kGo := kGo, kUnlock := kUnlock, kEnded := kEnded, kTimes := kTimes, hI := hI, hGot := hGot, hRight := hRight, hUse := hUse, hGive := hGive, hNote := hNote, hSeen := hSeen, lCell := lCell, lBox := lBox, lTake := lTake, lNames := lNames, lTried := lTried, lCome := lCome, lDone := lDone, lSafe := lSafe, lLaw := fa }
  have T : Txt K mg z := {
    clC := ⟨pgC, hdC, poC, saC⟩,
    cT := nCkept_times,
    cS := nCkept_shut,
    cO := nCkept_open,
    clD := ⟨pgD, hdD, poD, saD⟩,
    dG := nDkept_greatest,
    dR := nDkept_right,
    dN := nDkept_note,
    mgC := PySem.W.mg_of X G gC,
    mgD := PySem.W.mg_of X G gD,
    mkC := ⟨mkC, akI, ikI, kcC⟩,
    mkD := ⟨mkD, ahI, ihI, kcD⟩,
    mgS := PySem.W.mg_of X G gS,
    rdS := ⟨rdS, gaS⟩,
    inS := inS,
    oSh := ⟨xeSh.ox saeSh exeSh tyeSh kceSh, aiSh, iiSh, PySem.W.mg_of X G geSh, nfeSh⟩,
    oNR := ⟨xeNR.ox saeNR exeNR tyeNR kceNR, aiNR, iiNR, PySem.W.mg_of X G geNR, nfeNR⟩,
    oNS := ⟨xeNS.ox saeNS exeNS tyeNS kceNS, aiNS, iiNS, PySem.W.mg_of X G geNS, nfeNS⟩,
    xSh := exm_three (PySem.W.exm_ref exeSh hdeSh tyeSh seSheSh) (PySem.W.exm_ref exeNS hdeNS tyeNS seSheNS) (PySem.W.exm_ref exeNR hdeNR tyeNR seSheNR),
    xNR := exm_three (PySem.W.exm_ref exeSh hdeSh tyeSh seNReSh) (PySem.W.exm_ref exeNS hdeNS tyeNS seNReNS) (PySem.W.exm_ref exeNR hdeNR tyeNR seNReNR),
    xNS := exm_three (PySem.W.exm_ref exeSh hdeSh tyeSh seNSeSh) (PySem.W.exm_ref exeNS hdeNS tyeNS seNSeNS) (PySem.W.exm_ref exeNR hdeNR tyeNR seNSeNR),
    mLock := ⟨akLock, ikLock, lkLock.2⟩,
    mLocked := ⟨akLocked, ikLocked, lkLocked.2⟩,
    mThis := ⟨akThis, ikThis, lkThis.2⟩,
    mOpens := ⟨akOpens, ikOpens, lkOpens.2⟩,
    mIsOpen := ⟨akIsOpen, ikIsOpen, lkIsOpen.2⟩,
    mGo := ⟨akGo, ikGo, lkGo.2⟩,
    mUnlock := ⟨akUnlock, ikUnlock, lkUnlock.2⟩,
    mEnded := ⟨akEnded, ikEnded, lkEnded.2⟩,
    mTimes := ⟨akTimes, ikTimes, lkTimes.2⟩,
    mGot := ⟨ahGot, ihGot, lhGot.2⟩,
    mRight := ⟨ahRight, ihRight, lhRight.2⟩,
    mUse := ⟨ahUse, ihUse, lhUse.2⟩,
    mGive := ⟨ahGive, ihGive, lhGive.2⟩,
    mNote := ⟨ahNote, ihNote, lhNote.2⟩,
    mSeen := ⟨ahSeen, ihSeen, lhSeen.2⟩,
    mgG := hGr,
    mgW := PySem.W.mg_of X G afW,
    kW := lfW.2,
    mgCell := PySem.W.mg_of X G alCell,
    kCell := llCell.2,
    mgBox := PySem.W.mg_of X G alBox,
    kBox := llBox.2,
    mgTake := PySem.W.mg_of X G alTake,
    kTake := llTake.2,
    mgNames := PySem.W.mg_of X G alNames,
    kNames := llNames.2,
    mgTried := PySem.W.mg_of X G alTried,
    kTried := llTried.2,
    mgCome := PySem.W.mg_of X G alCome,
    kCome := llCome.2,
    mgDone := PySem.W.mg_of X G alDone,
    kDone := llDone.2,
    mgSafe := PySem.W.mg_of X G alSafe,
    kSafe := llSafe.2,
    bLen := PySem.W.mg_none_of X G blen,
    bMax := PySem.W.mg_none_of X G bmax,
    bMin := PySem.W.mg_none_of X G bmin,
    bRange := PySem.W.mg_none_of X G brange,
    bIsi := PySem.W.mg_none_of X G bisinstance,
    bInt := PySem.W.mg_none_of X G bint,
    bBool := PySem.W.mg_none_of X G bbool,
    bEnum := PySem.W.mg_none_of X G benumerate }
  have FiSh : FunB K "__init__" "Shut.__init__" sShutI z.iSh ["self", "found"] := fun_b liSh fun _ _ _ _ _ _ us hl => match us, hl with | [_, _], _ => rfl
  have FiNR : FunB K "__init__" "NoRight.__init__" sNoRI z.iNR ["self", "found"] := fun_b liNR fun _ _ _ _ _ _ us hl => match us, hl with | [_, _], _ => rfl
  have FiNS : FunB K "__init__" "NotShut.__init__" sNotSI z.iNS ["self", "found"] := fun_b liNS fun _ _ _ _ _ _ us hl => match us, hl with | [_, _], _ => rfl
  have FfW : FunB K "is_whole" "is_whole" sWhole z.fW ["thing", "low", "high"] := fun_b lfW fun _ _ _ _ _ _ us hl => match us, hl with | [_, _, _], _ => rfl
  have FkI : FunB K "__init__" "Keeper.__init__" sKI z.kI ["self"] := fun_b lkI fun _ _ _ _ _ _ us hl => match us, hl with | [_], _ => rfl
  have FkLock : FunB K "lock" "Keeper.lock" sLock z.kLock ["self", "to"] := fun_b lkLock fun _ _ _ _ _ _ us hl => match us, hl with | [_, _], _ => rfl
  have FkLocked : FunB K "locked" "Keeper.locked" sLocked z.kLocked ["self"] := fun_b lkLocked fun _ _ _ _ _ _ us hl => match us, hl with | [_], _ => rfl
  have FkThis : FunB K "is_this" "Keeper.is_this" sThis z.kThis ["self", "number"] := fun_b lkThis fun _ _ _ _ _ _ us hl => match us, hl with | [_, _], _ => rfl
  have FkOpens : FunB K "opens" "Keeper.opens" sOpens z.kOpens ["self", "number"] := fun_b lkOpens fun _ _ _ _ _ _ us hl => match us, hl with | [_, _], _ => rfl
  have FkIsOpen : FunB K "is_open" "Keeper.is_open" sIsOpen z.kIsOpen ["self"] := fun_b lkIsOpen fun _ _ _ _ _ _ us hl => match us, hl with | [_], _ => rfl
  have FkGo : FunB K "let_go" "Keeper.let_go" sLetGo z.kGo ["self"] := fun_b lkGo fun _ _ _ _ _ _ us hl => match us, hl with | [_], _ => rfl
  have FkUnlock : FunB K "unlock" "Keeper.unlock" sUnlock z.kUnlock ["self"] := fun_b lkUnlock fun _ _ _ _ _ _ us hl => match us, hl with | [_], _ => rfl
  have FkEnded : FunB K "ended" "Keeper.ended" sEnded z.kEnded ["self", "number"] := fun_b lkEnded fun _ _ _ _ _ _ us hl => match us, hl with | [_, _], _ => rfl
  have FkTimes : FunB K "times" "Keeper.times" sTimes z.kTimes ["self"] := fun_b lkTimes fun _ _ _ _ _ _ us hl => match us, hl with | [_], _ => rfl
  have FhI : FunB K "__init__" "Holder.__init__" sHI z.hI ["self"] := fun_b lhI fun _ _ _ _ _ _ us hl => match us, hl with | [_], _ => rfl
  have FhGot : FunB K "got" "Holder.got" sGot z.hGot ["self", "number", "place"] := fun_b lhGot fun _ _ _ _ _ _ us hl => match us, hl with | [_, _, _], _ => rfl
  have FhRight : FunB K "right" "Holder.right" sRight z.hRight ["self"] := fun_b lhRight fun _ _ _ _ _ _ us hl => match us, hl with | [_], _ => rfl
  have FhUse : FunB K "use" "Holder.use" sUse z.hUse ["self"] := fun_b lhUse fun _ _ _ _ _ _ us hl => match us, hl with | [_], _ => rfl
  have FhGive : FunB K "give" "Holder.give" sGive z.hGive ["self"] := fun_b lhGive fun _ _ _ _ _ _ us hl => match us, hl with | [_], _ => rfl
  have FhNote : FunB K "note" "Holder.note" sNote z.hNote ["self", "number", "place"] := fun_b lhNote fun _ _ _ _ _ _ us hl => match us, hl with | [_, _, _], _ => rfl
  have FhSeen : FunB K "seen" "Holder.seen" sSeen z.hSeen ["self"] := fun_b lhSeen fun _ _ _ _ _ _ us hl => match us, hl with | [_], _ => rfl
  have FlCell : FunB K "_law_cell" "_law_cell" sCell z.lCell ["_law_script", "_law_k"] := fun_b llCell fun _ _ _ _ _ _ us hl => match us, hl with | [_, _], _ => rfl
  have FlBox : FunB K "_law_box" "_law_box" sBox z.lBox ["_law_cell_here"] := fun_b llBox fun _ _ _ _ _ _ us hl => match us, hl with | [_], _ => rfl
  have FlTake : FunB K "_law_take" "_law_take" sTake z.lTake ["_law_box_here", "_law_many"] := fun_b llTake fun _ _ _ _ _ _ us hl => match us, hl with | [_, _], _ => rfl
  have FlNames : FunB K "_law_names" "_law_names" sNames z.lNames ["_law_box_here", "_law_many"] := fun_b llNames fun _ _ _ _ _ _ us hl => match us, hl with | [_, _], _ => rfl
  have FlTried : FunB K "_law_tried" "_law_tried" sTried z.lTried ["_law_keeper", "_law_holder", "_law_way", "_law_place"] := fun_b llTried fun _ _ _ _ _ _ us hl => match us, hl with | [_, _, _, _], _ => rfl
  have FlCome : FunB K "_law_come" "_law_come" sCome z.lCome ["_law_state", "_law_at"] := fun_b llCome fun _ _ _ _ _ _ us hl => match us, hl with | [_, _], _ => rfl
  have FlDone : FunB K "_law_done" "_law_done" sDone z.lDone ["_law_box_here", "_law_state", "_law_names_here"] := fun_b llDone fun _ _ _ _ _ _ us hl => match us, hl with | [_, _, _], _ => rfl
  have FlSafe : FunB K "_law_safe" "_law_safe" sSafe z.lSafe ["_law_state"] := fun_b llSafe fun _ _ _ _ _ _ us hl => match us, hl with | [_], _ => rfl
  obtain ⟨⟨oc, od, kV, doc, pm, an, cdv, ct, sl, e, c⟩, k⟩ := llLaw
  refine ⟨PySem.W.fnOf "law" "law" (defArgs sLaw) (defBody sLaw) (defScope sLaw) .none kV doc pm an cdv ct, fun s v => .of_eq rfl, fun base _ _ => ?_⟩
  have pW := pr_whole (P := l.prog) (w := w) (base := base) FfW T
  have pSh := pr_shutI (P := l.prog) (w := w) (base := base) FiSh T T.oSh
  have pNR := pr_noRI (P := l.prog) (w := w) (base := base) FiNR T T.oNR
  have pNS := pr_notSI (P := l.prog) (w := w) (base := base) FiNS T T.oNS
  have pLock := pr_lock FkLock T pSh
  have pLo := pr_locked (P := l.prog) (w := w) (base := base) FkLocked T
  have pThis := pr_this FkThis T pW
  have pOp := pr_opens FkOpens T pThis
  have pIs := pr_isopen (P := l.prog) (w := w) (base := base) FkIsOpen T
  have pGo := pr_go (P := l.prog) (w := w) (base := base) FkGo T
  have pUn := pr_unlock FkUnlock T pGo pNS pNR
  have pEn := pr_ended FkEnded T pThis pGo
  have pTi := pr_times (P := l.prog) (w := w) (base := base) FkTimes T
  have pGot := pr_got FhGot T pW
  have pRi := pr_right (P := l.prog) (w := w) (base := base) FhRight T
  have pUse := pr_use FhUse T pNR
  have pNote := pr_note (P := l.prog) (w := w) (base := base) FhNote T
  have pGive := pr_give FhGive T pUse pNote
  have pSe := pr_seen (P := l.prog) (w := w) (base := base) FhSeen T
  have pTa := pr_take (P := l.prog) (w := w) (base := base) FlTake T
  have pTr := pr_tried FlTried T pLock pUse pGive pUn
  have pCo := pr_come FlCome T pLo pIs pOp pSe pGot
  have pDo := pr_done FlDone T pTa pCo pEn pNote pTr
  exact pr_law (fun_mk (st := sLaw) e c k) T
    { ki := pr_ki FkI T, hi := pr_hi FhI T, lo := pLo, is := pIs, ti := pTi, ri := pRi, se := pSe, ce := pr_cell FlCell T, bo := pr_box FlBox T, ta := pTa, na := pr_names FlNames T pTa, co := pCo, do_ := pDo, sa := pr_safe FlSafe T pLo pRi }
end K23

open PySem PySem.W PyProof.Rows
set_option maxRecDepth 100000 in
set_option maxHeartbeats 0 in
theorem PySem.Challenge.cw_onestaff_k23_whole_one_right_holds : PySem.Challenge.rw_onestaff_k23_whole_one_right.Holds := by
  w_on; o_law; k_head; (case hw => w_witness2)
  k_fill
  refine K23.to_walk (l := PySem.Challenge.rw_onestaff_k23_whole_one_right) rfl rfl (fun w h Y => PySem.W.kIn_of Y) ?F
  case F =>
    intro w mg fa h hX KX G hmg
    refine' K23.all_mk KX G hmg ?gr ?gC ?pgC ?hdC ?poC ?saC ?mkC ?kcC ?nCkept_times ?nCkept_shut ?nCkept_open ?gD ?pgD ?hdD ?poD ?saD ?mkD ?kcD ?nDkept_greatest ?nDkept_right ?nDkept_note ?gS ?rdS ?gaS ?inS ?geSh ?xeSh ?saeSh ?exeSh ?tyeSh ?kceSh ?hdeSh ?nfeSh ?geNR ?xeNR ?saeNR ?exeNR ?tyeNR ?kceNR ?hdeNR ?nfeNR ?geNS ?xeNS ?saeNS ?exeNS ?tyeNS ?kceNS ?hdeNS ?nfeNS ?seSheSh ?seSheNR ?seSheNS ?seNReSh ?seNReNR ?seNReNS ?seNSeSh ?seNSeNR ?seNSeNS ?aiSh ?iiSh ?liSh ?aiNR ?iiNR ?liNR ?aiNS ?iiNS ?liNS ?afW ?lfW ?akI ?ikI ?lkI ?akLock ?ikLock ?lkLock ?akLocked ?ikLocked ?lkLocked ?akThis ?ikThis ?lkThis ?akOpens ?ikOpens ?lkOpens ?akIsOpen ?ikIsOpen ?lkIsOpen ?akGo ?ikGo ?lkGo ?akUnlock ?ikUnlock ?lkUnlock ?akEnded ?ikEnded ?lkEnded ?akTimes ?ikTimes ?lkTimes ?ahI ?ihI ?lhI ?ahGot ?ihGot ?lhGot ?ahRight ?ihRight ?lhRight ?ahUse ?ihUse ?lhUse ?ahGive ?ihGive ?lhGive ?ahNote ?ihNote ?lhNote ?ahSeen ?ihSeen ?lhSeen ?alCell ?llCell ?alBox ?llBox ?alTake ?llTake ?alNames ?llNames ?alTried ?llTried ?alCome ?llCome ?alDone ?llDone ?alSafe ?llSafe ?alLaw ?llLaw ?blen ?bmax ?bmin ?brange ?bisinstance ?bint ?bbool ?benumerate
    case gr =>
      obtain ⟨v, e, r⟩ := hX.2.val _ List.mem_cons_self
      cases r
      exact ⟨_, e⟩
    case gC => k_is
    case pgC => k_is
    case hdC => k_is
    case poC => k_is
    case saC => k_is
    case mkC => k_is
    case kcC => k_is
    case nCkept_times => k_is
    case nCkept_shut => k_is
    case nCkept_open => k_is
    case gD => k_is
    case pgD => k_is
    case hdD => k_is
    case poD => k_is
    case saD => k_is
    case mkD => k_is
    case kcD => k_is
    case nDkept_greatest => k_is
    case nDkept_right => k_is
    case nDkept_note => k_is
    case gS => k_is
    case rdS => k_is
    case gaS => k_is
    case inS => k_is
    case geSh => k_is
    case xeSh =>
      refine' K23.exc_at ?x
      (case x => k_is)
    case saeSh => k_is
    case exeSh => first | k_is | rfl
    case tyeSh => k_is
    case kceSh => k_is
    case hdeSh => k_is
    case nfeSh => k_is
    case geNR => k_is
    case xeNR =>
      refine' K23.exc_at ?x
      (case x => k_is)
    case saeNR => k_is
    case exeNR => first | k_is | rfl
    case tyeNR => k_is
    case kceNR => k_is
    case hdeNR => k_is
    case nfeNR => k_is
    case geNS => k_is
    case xeNS =>
      refine' K23.exc_at ?x
      (case x => k_is)
    case saeNS => k_is
    case exeNS => first | k_is | rfl
    case tyeNS => k_is
    case kceNS => k_is
    case hdeNS => k_is
    case nfeNS => k_is
    case seSheSh => first | k_is | rfl
    case seSheNR => first | k_is | rfl
    case seSheNS => first | k_is | rfl
    case seNReSh => first | k_is | rfl
    case seNReNR => first | k_is | rfl
    case seNReNS => first | k_is | rfl
    case seNSeSh => first | k_is | rfl
    case seNSeNR => first | k_is | rfl
    case seNSeNS => first | k_is | rfl
    case aiSh => k_is
    case iiSh => k_is
    case liSh =>
      refine' K23.fn_at ?x ?y ?k
      (case x => k_is); (case y => k_is); (case k => k_is)
    case aiNR => k_is
    case iiNR => k_is
    case liNR =>
      refine' K23.fn_at ?x ?y ?k
      (case x => k_is); (case y => k_is); (case k => k_is)
    case aiNS => k_is
    case iiNS => k_is
    case liNS =>
      refine' K23.fn_at ?x ?y ?k
      (case x => k_is); (case y => k_is); (case k => k_is)
    case afW => k_is
    case lfW =>
      refine' K23.fn_at ?x ?y ?k
      (case x => k_is); (case y => k_is); (case k => k_is)
    case akI => k_is
    case ikI => k_is
    case lkI =>
      refine' K23.fn_at ?x ?y ?k
      (case x => k_is); (case y => k_is); (case k => k_is)
    case akLock => k_is
    case ikLock => k_is
    case lkLock =>
      refine' K23.fn_at ?x ?y ?k
      (case x => k_is); (case y => k_is); (case k => k_is)
    case akLocked => k_is
    case ikLocked => k_is
    case lkLocked =>
      refine' K23.fn_at ?x ?y ?k
      (case x => k_is); (case y => k_is); (case k => k_is)
    case akThis => k_is
    case ikThis => k_is
    case lkThis =>
      refine' K23.fn_at ?x ?y ?k
      (case x => k_is); (case y => k_is); (case k => k_is)
    case akOpens => k_is
    case ikOpens => k_is
    case lkOpens =>
      refine' K23.fn_at ?x ?y ?k
      (case x => k_is); (case y => k_is); (case k => k_is)
    case akIsOpen => k_is
    case ikIsOpen => k_is
    case lkIsOpen =>
      refine' K23.fn_at ?x ?y ?k
      (case x => k_is); (case y => k_is); (case k => k_is)
    case akGo => k_is
    case ikGo => k_is
    case lkGo =>
      refine' K23.fn_at ?x ?y ?k
      (case x => k_is); (case y => k_is); (case k => k_is)
    case akUnlock => k_is
    case ikUnlock => k_is
    case lkUnlock =>
      refine' K23.fn_at ?x ?y ?k
      (case x => k_is); (case y => k_is); (case k => k_is)
    case akEnded => k_is
    case ikEnded => k_is
    case lkEnded =>
      refine' K23.fn_at ?x ?y ?k
      (case x => k_is); (case y => k_is); (case k => k_is)
    case akTimes => k_is
    case ikTimes => k_is
    case lkTimes =>
      refine' K23.fn_at ?x ?y ?k
      (case x => k_is); (case y => k_is); (case k => k_is)
    case ahI => k_is
    case ihI => k_is
    case lhI =>
      refine' K23.fn_at ?x ?y ?k
      (case x => k_is); (case y => k_is); (case k => k_is)
    case ahGot => k_is
    case ihGot => k_is
    case lhGot =>
      refine' K23.fn_at ?x ?y ?k
      (case x => k_is); (case y => k_is); (case k => k_is)
    case ahRight => k_is
    case ihRight => k_is
    case lhRight =>
      refine' K23.fn_at ?x ?y ?k
      (case x => k_is); (case y => k_is); (case k => k_is)
    case ahUse => k_is
    case ihUse => k_is
    case lhUse =>
      refine' K23.fn_at ?x ?y ?k
      (case x => k_is); (case y => k_is); (case k => k_is)
    case ahGive => k_is
    case ihGive => k_is
    case lhGive =>
      refine' K23.fn_at ?x ?y ?k
      (case x => k_is); (case y => k_is); (case k => k_is)
    case ahNote => k_is
    case ihNote => k_is
    case lhNote =>
      refine' K23.fn_at ?x ?y ?k
      (case x => k_is); (case y => k_is); (case k => k_is)
    case ahSeen => k_is
    case ihSeen => k_is
    case lhSeen =>
      refine' K23.fn_at ?x ?y ?k
      (case x => k_is); (case y => k_is); (case k => k_is)
    case alCell => k_is
    case llCell =>
      refine' K23.fn_at ?x ?y ?k
      (case x => k_is); (case y => k_is); (case k => k_is)
    case alBox => k_is
    case llBox =>
      refine' K23.fn_at ?x ?y ?k
      (case x => k_is); (case y => k_is); (case k => k_is)
    case alTake => k_is
    case llTake =>
      refine' K23.fn_at ?x ?y ?k
      (case x => k_is); (case y => k_is); (case k => k_is)
    case alNames => k_is
    case llNames =>
      refine' K23.fn_at ?x ?y ?k
      (case x => k_is); (case y => k_is); (case k => k_is)
    case alTried => k_is
    case llTried =>
      refine' K23.fn_at ?x ?y ?k
      (case x => k_is); (case y => k_is); (case k => k_is)
    case alCome => k_is
    case llCome =>
      refine' K23.fn_at ?x ?y ?k
      (case x => k_is); (case y => k_is); (case k => k_is)
    case alDone => k_is
    case llDone =>
      refine' K23.fn_at ?x ?y ?k
      (case x => k_is); (case y => k_is); (case k => k_is)
    case alSafe => k_is
    case llSafe =>
      refine' K23.fn_at ?x ?y ?k
      (case x => k_is); (case y => k_is); (case k => k_is)
    case alLaw => k_is
    case llLaw =>
      refine' K23.fn_at ?x ?y ?k
      (case x => k_is); (case y => k_is); (case k => k_is)
    case blen => k_is
    case bmax => k_is
    case bmin => k_is
    case brange => k_is
    case bisinstance => k_is
    case bint => k_is
    case bbool => k_is
    case benumerate => k_is
#print axioms PySem.Challenge.cw_onestaff_k23_whole_one_right_holds
