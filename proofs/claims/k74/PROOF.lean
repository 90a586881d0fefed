import PyProof.Rows.All
import Wide.All
import OpenK.AllK
import Wide.FinOn
import HandS.ForMost
import HandS.Evl
import HandS.Deep
import HandS.TupAny
import HandS.Conv
import KE.SortData
import KE.GoesMore
import KE.GoesEnum
import HandS.SortKw
import PyProof.MinMaxWalk
import KE.KMinKey
import KE.LtData
import PyProof.SumWalk
import PyProof.WalksMore
import HandS.DictTup
import KE.KDictList
import KE.KeyNested
import KE.KDictCopyH
import KE.KDictWalk
import HandS.SetFor
import HandS.Wide
import HandS.WideMore
import HandS.Text
import HandS.Style
import HandS.Walk
import HandS.TryOnly
import PySem.Challenge.RW_ringfences_k74_whole_programs_side_by_si
section
set_option autoImplicit false
set_option linter.unusedSectionVars false
/-! The plain law: programs as lists of instructions, rings as reachability, and what the two whole-program laws ask. No program text in sight. -/
namespace RF
inductive Kd where
  | store | load | swap
  deriving DecidableEq
inductive Ins (α : Type) where
  | acc (k : Kd) (x : α)
  | fence
  deriving DecidableEq
section
variable {α : Type} [DecidableEq α]
def Ins.isAcc : Ins α → Bool
  | .acc _ _ => true
  | .fence => false
def Ins.isStore : Ins α → Bool
  | .acc .store _ => true
  | _ => false
def Ins.isLoad : Ins α → Bool
  | .acc .load _ => true
  | _ => false
def Ins.doesStore : Ins α → Bool
  | .acc .store _ => true
  | .acc .swap _ => true
  | _ => false
def Ins.empties : Ins α → Bool
  | .acc .swap _ => true
  | .fence => true
  | _ => false
def Ins.var? : Ins α → Option α
  | .acc _ x => some x
  | .fence => none
def Ins.meets (a b : Ins α) : Bool := a.isAcc && b.isAcc && decide (a.var? = b.var?) && (a.doesStore || b.doesStore)
/-- a part of a thread -/
def sl {β : Type} (xs : List β) (a b : Nat) : List β := (xs.drop a).take (b - a)
abbrev Th (α : Type) := List (Ins α)
abbrev Prog (α : Type) := List (List (Ins α))
def queued (t : Th α) (line : Bool) (e l : Nat) : Nat :=
  if line then ((sl t e l).filter Ins.isStore).length else (((sl t e l).filter Ins.isStore).filter fun i => decide (i.var? = (t.getD e .fence).var?)).length
def turnable (t : Th α) (line : Bool) (e l : Nat) : Bool :=
  (t.getD e .fence).isStore && (t.getD l .fence).isAcc && !decide ((t.getD e .fence).var? = (t.getD l .fence).var?) && !((sl t (e + 1) (l + 1)).any Ins.empties) &&
    (!line || ((t.getD l .fence).isLoad && !((sl t (e + 1) l).any fun i => i.isStore && decide (i.var? = (t.getD l .fence).var?))))
def looseAt (t : Th α) (line : Bool) (room : Nat) (e l : Nat) : Bool := turnable t line e l && decide (queued t line e l ≤ room)
abbrev Tri := Nat × Nat × Nat
def looseE (t : Th α) (line : Bool) (room th e : Nat) : List Tri := ((List.range' (e + 1) (t.length - (e + 1))).filter (looseAt t line room e)).map fun l => (th, e, l)
def looseT (t : Th α) (line : Bool) (room th : Nat) : List Tri := (List.range t.length).flatMap (looseE t line room th)
def looseFrom (line : Bool) (room : Nat) : Nat → Prog α → List Tri
  | _, [] => []
  | k, t :: r => looseT t line room k ++ looseFrom line room (k + 1) r
def loose (p : Prog α) (line : Bool) (room : Nat) : List Tri := looseFrom line room 0 p

def th (p : Prog α) (t : Nat) : Th α := p.getD t []
def ins (p : Prog α) (t at' : Nat) : Ins α := (th p t).getD at' .fence
/-- the first access of a thread that meets a -/
def firstMeet (a : Ins α) (t : Th α) : Option Nat := t.findIdx? fun b => a.meets b
/-- the sort of an access: its variable, and whether it is a load -/
def Ins.sort (a : Ins α) : Option α × Bool := (a.var?, a.isLoad)
/-- the first access of its sort from an entry on -/
def IsExit (t : Th α) (e at' : Nat) : Prop := e ≤ at' ∧ at' < t.length ∧ (t.getD at' .fence).isAcc = true ∧ ∀ j, e ≤ j → j < at' → (t.getD j .fence).sort ≠ (t.getD at' .fence).sort

/-! ### a thread's way alone: how many steps -/
def queueOf (g : Nat → Ins α) (line : Bool) (ws : List Nat) (at' : Nat) : List Nat := ws.filter fun one => line || decide ((g one).var? = (g at').var?)
/-- what must be flushed ahead of an instruction: the stores that wait behind it, and how many were flushed -/
def makeWay (g : Nat → Ins α) (line : Bool) (room : Nat) (ws : List Nat) (at' : Nat) : List Nat × Nat :=
  if (g at').empties then ([], ws.length)
  else if (g at').isStore && decide ((queueOf g line ws at').length = room) then (ws.erase ((queueOf g line ws at').headD 0), 1)
  else (ws, 0)
def tripStep (g : Nat → Ins α) (line : Bool) (room : Nat) (s : List Nat × Nat) (at' : Nat) : List Nat × Nat :=
  let r := makeWay g line room s.1 at'
  (if (g at').isStore then r.1 ++ [at'] else r.1, s.2 + r.2 + 1)
def tripRun (g : Nat → Ins α) (line : Bool) (room : Nat) (n : Nat) : List Nat × Nat := (List.range n).foldl (tripStep g line room) ([], 0)
/-- the store that must be in memory for the effect of the last instruction -/
def lastOf (g : Nat → Ins α) (goal : Nat) : Int :=
  if (g goal).isLoad then ((List.range goal).filter fun at' => (g at').isStore && decide ((g at').var? = (g goal).var?)).foldl (fun (m : Int) (at' : Nat) => max m (at' : Int)) (-1) else goal
def settled (g : Nat → Ins α) (line : Bool) (goal : Nat) (ws : List Nat) : Nat :=
  if 0 ≤ lastOf g goal ∧ (lastOf g goal).toNat ∈ ws then ((queueOf g line ws (lastOf g goal).toNat).filter fun one => decide (one ≤ (lastOf g goal).toNat)).length else 0
def tripG (g : Nat → Ins α) (line : Bool) (room goal : Nat) : Nat :=
  (tripRun g line room (goal + 1)).2 + settled g line goal (tripRun g line room (goal + 1)).1
def trip (t : Th α) (line : Bool) (room goal : Nat) : Nat := tripG (fun i => (t.take (goal + 1)).getD i .fence) line room goal
def cost (p : Prog α) (line : Bool) (room : Nat) (t at' : Nat) : Nat := trip (th p t) line room at'

/-! ### ways through other threads -/
/-- vis: the threads used so far, the last one first; t, e: the last one and where it was entered; c: the steps so far -/
inductive Reach (p : Prog α) (line : Bool) (room home late : Nat) : List Nat → Nat → Nat → Nat → Prop
  | base {o e : Nat} : o < p.length → o ≠ home → firstMeet (ins p home late) (th p o) = some e → Reach p line room home late [o, home] o e (cost p line room home late)
  | step {vis : List Nat} {t e c at' o e' : Nat} : Reach p line room home late vis t e c → IsExit (th p t) e at' → o < p.length → o ∉ vis → firstMeet (ins p t at') (th p o) = some e' →
      Reach p line room home late (o :: vis) o e' (c + cost p line room t at')
/-- a ring for (home, early, late), with its steps -/
def Route (p : Prog α) (line : Bool) (room : Nat) (q : Tri) (c : Nat) : Prop :=
  ∃ vis t e c' at', Reach p line room q.1 q.2.2 vis t e c' ∧ IsExit (th p t) e at' ∧ (ins p t at').meets (ins p q.1 q.2.1) = true ∧ c = c' + cost p line room t at'
def Live (p : Prog α) (line : Bool) (room : Nat) (q : Tri) : Prop := ∃ c, Route p line room q c
open Classical in
noncomputable def live (p : Prog α) (line : Bool) (room : Nat) : List Tri := (loose p line room).filter fun q => decide (Live p line room q)
/-- the fewest steps -/
def Fewest (p : Prog α) (line : Bool) (room : Nat) : Option Nat → Prop
  | none => ∀ q, q ∈ loose p line room → ¬ Live p line room q
  | some m => (∃ q, q ∈ loose p line room ∧ Route p line room q m) ∧ ∀ q c, q ∈ loose p line room → Route p line room q c → m ≤ c
/-- the lesser one, None being none -/
def leastO : Option Nat → Option Nat → Option Nat
  | none, b => b
  | a, none => a
  | some a, some b => some (min a b)
/-- the least room -/
noncomputable def rooms (p : Prog α) (line : Bool) : List Nat := (live p line 16).map fun q => queued (th p q.1) line q.2.1 q.2.2
def minO : List Nat → Option Nat
  | [] => none
  | x :: r => some (r.foldl min x)
noncomputable def leastRoom (p : Prog α) (line : Bool) : Option Nat := minO (rooms p line)

/-! ### lists -/
theorem getD_pre {β : Type} {t t' : List β} {d : β} (h : t <+: t') {i : Nat} (hi : i < t.length) : t'.getD i d = t.getD i d := by
  obtain ⟨r, rfl⟩ := h
  rw [List.getD_eq_getElem?_getD, List.getD_eq_getElem?_getD, List.getElem?_append_left hi]
theorem sl_pre {β : Type} {t t' : List β} (h : t <+: t') {a b : Nat} (hb : b ≤ t.length) : sl t' a b = sl t a b := by
  obtain ⟨r, rfl⟩ := h
  unfold sl
  by_cases ha : a ≤ t.length
  · rw [List.drop_append_of_le_length ha, List.take_append_of_le_length]
    rw [List.length_drop]; omega
  · have : b - a = 0 := by omega
    rw [this, List.take_zero, List.take_zero]
theorem take_pre {β : Type} {t t' : List β} (h : t <+: t') {n : Nat} (hb : n ≤ t.length) : t'.take n = t.take n := by
  obtain ⟨r, rfl⟩ := h
  rw [List.take_append_of_le_length hb]
/-! ### a thread grown at its end -/
section
variable {t t' : Th α} (h : t <+: t')
include h
theorem queued_pre {line : Bool} {e l : Nat} (h1 : e < l) (h2 : l < t.length) : queued t' line e l = queued t line e l := by
  unfold queued
  rw [sl_pre h (by omega), getD_pre h (by omega)]
theorem turnable_pre {line : Bool} {e l : Nat} (h1 : e < l) (h2 : l < t.length) : turnable t' line e l = turnable t line e l := by
  unfold turnable
  rw [sl_pre h (by omega), sl_pre h (by omega), getD_pre h (by omega), getD_pre h h2]
theorem looseAt_pre {line : Bool} {room e l : Nat} (h1 : e < l) (h2 : l < t.length) : looseAt t' line room e l = looseAt t line room e l := by
  unfold looseAt
  rw [turnable_pre h h1 h2, queued_pre h h1 h2]
theorem firstMeet_pre {a : Ins α} {e : Nat} (q : firstMeet a t = some e) : firstMeet a t' = some e := by
  obtain ⟨r, rfl⟩ := h
  unfold firstMeet at *
  rw [List.findIdx?_append, q]
  rfl
theorem IsExit_pre {e at' : Nat} (q : IsExit t e at') : IsExit t' e at' := by
  obtain ⟨q1, q2, q3, q4⟩ := q
  have hl := h.length_le
  refine ⟨q1, by omega, by rw [getD_pre h q2]; exact q3, fun j hj hj2 => ?_⟩
  rw [getD_pre h q2, getD_pre h (by omega)]
  exact q4 j hj hj2
theorem trip_pre {line : Bool} {room goal : Nat} (h2 : goal < t.length) : trip t' line room goal = trip t line room goal := by
  unfold trip
  rw [take_pre h (by omega)]
end
theorem firstMeet_lt {a : Ins α} {t : Th α} {e : Nat} (q : firstMeet a t = some e) : e < t.length := by
  unfold firstMeet at q
  obtain ⟨h, _⟩ := List.findIdx?_eq_some_iff_getElem.mp q
  exact h
/-! ### what is loose -/
theorem mem_looseE {t : Th α} {line : Bool} {room k e : Nat} {q : Tri} : q ∈ looseE t line room k e ↔ q.1 = k ∧ q.2.1 = e ∧ e < q.2.2 ∧ q.2.2 < t.length ∧ looseAt t line room e q.2.2 = true := by
  unfold looseE
  simp only [List.mem_map, List.mem_filter, List.mem_range'_1]
  constructor
  · rintro ⟨l, ⟨⟨h1, h2⟩, h3⟩, rfl⟩
    exact ⟨rfl, rfl, (by show e < l; omega), (by show l < t.length; omega), h3⟩
  · rintro ⟨h1, h2, h3, h4, h5⟩
    refine ⟨q.2.2, ⟨⟨by omega, by omega⟩, h5⟩, ?_⟩
    rw [← h1, ← h2]
theorem mem_looseT {t : Th α} {line : Bool} {room k : Nat} {q : Tri} : q ∈ looseT t line room k ↔ q.1 = k ∧ q.2.1 < q.2.2 ∧ q.2.2 < t.length ∧ looseAt t line room q.2.1 q.2.2 = true := by
  unfold looseT
  simp only [List.mem_flatMap, List.mem_range, mem_looseE]
  constructor
  · rintro ⟨e, he, h1, h2, h3, h4, h5⟩
    subst h2
    exact ⟨h1, h3, h4, h5⟩
  · rintro ⟨h1, h3, h4, h5⟩
    exact ⟨q.2.1, by omega, h1, rfl, h3, h4, h5⟩
theorem mem_looseFrom {line : Bool} {room : Nat} {q : Tri} : ∀ {p : Prog α} {k : Nat}, q ∈ looseFrom line room k p ↔ k ≤ q.1 ∧ q.1 < k + p.length ∧ q.2.1 < q.2.2 ∧ q.2.2 < (th p (q.1 - k)).length ∧ looseAt (th p (q.1 - k)) line room q.2.1 q.2.2 = true
  | [], k => by
    simp only [looseFrom, List.length_nil, th, List.getD_nil]
    constructor
    · intro h; cases h
    · rintro ⟨h1, h2, _⟩; omega
  | t :: r, k => by
    rw [looseFrom, List.mem_append, mem_looseT, mem_looseFrom]
    constructor
    · rintro (⟨h1, h2⟩ | ⟨h1, h2, h3, h4, h5⟩)
      · subst h1
        refine ⟨Nat.le_refl _, by rw [List.length_cons]; omega, ?_⟩
        rw [Nat.sub_self]
        exact h2
      · refine ⟨by omega, by rw [List.length_cons]; omega, h3, ?_⟩
        have e : q.1 - k = (q.1 - (k + 1)) + 1 := by omega
        rw [e]
        exact ⟨h4, h5⟩
    · rintro ⟨h1, h2, h3⟩
      by_cases hk : q.1 = k
      · refine .inl ⟨hk, ?_⟩
        rw [hk, Nat.sub_self] at h3
        exact h3
      · refine .inr ⟨by omega, by rw [List.length_cons] at h2; omega, ?_⟩
        have e : q.1 - k = (q.1 - (k + 1)) + 1 := by omega
        rw [e] at h3
        exact h3
theorem mem_loose {p : Prog α} {line : Bool} {room : Nat} {q : Tri} : q ∈ loose p line room ↔ q.1 < p.length ∧ q.2.1 < q.2.2 ∧ q.2.2 < (th p q.1).length ∧ looseAt (th p q.1) line room q.2.1 q.2.2 = true := by
  unfold loose
  rw [mem_looseFrom]
  simp only [Nat.zero_le, true_and, Nat.zero_add, Nat.sub_zero]
theorem nodup_looseE {t : Th α} {line : Bool} {room k e : Nat} : (looseE t line room k e).Nodup := by
  unfold looseE
  unfold List.Nodup
  rw [List.pairwise_map]
  refine List.Pairwise.imp ?_ ((List.nodup_range' (step := 1)).filter _)
  intro a b hab hc
  simp only [Prod.mk.injEq, true_and] at hc
  exact hab hc
theorem nodup_looseT {t : Th α} {line : Bool} {room k : Nat} : (looseT t line room k).Nodup := by
  unfold looseT
  unfold List.Nodup
  rw [List.pairwise_flatMap]
  refine ⟨fun e _ => nodup_looseE, List.Pairwise.imp ?_ List.nodup_range⟩
  intro a b hab x hx y hy he
  subst he
  rw [mem_looseE] at hx hy
  exact hab (hx.2.1.symm.trans hy.2.1)
theorem nodup_looseFrom {line : Bool} {room : Nat} : ∀ {p : Prog α} {k : Nat}, (looseFrom line room k p).Nodup
  | [], _ => List.nodup_nil
  | t :: r, k => by
    rw [looseFrom, List.nodup_append]
    refine ⟨nodup_looseT, nodup_looseFrom, fun x hx y hy he => ?_⟩
    subst he
    rw [mem_looseT] at hx
    rw [mem_looseFrom] at hy
    omega
theorem nodup_loose {p : Prog α} {line : Bool} {room : Nat} : (loose p line room).Nodup := nodup_looseFrom
/-! ### more threads, more instructions at the ends -/
def Le (p p' : Prog α) : Prop := p.length ≤ p'.length ∧ ∀ t, t < p.length → th p t <+: th p' t
theorem Le.ins {p p' : Prog α} (h : Le p p') {t a : Nat} (ht : t < p.length) (ha : a < (th p t).length) : ins p' t a = ins p t a := getD_pre (h.2 t ht) ha
theorem Le.cost {p p' : Prog α} (h : Le p p') {line : Bool} {room t a : Nat} (ht : t < p.length) (ha : a < (th p t).length) : cost p' line room t a = cost p line room t a := trip_pre (h.2 t ht) ha
theorem Le.loose {p p' : Prog α} (h : Le p p') {line : Bool} {room : Nat} {q : Tri} (hq : q ∈ loose p line room) : q ∈ loose p' line room := by
  rw [mem_loose] at hq ⊢
  obtain ⟨h1, h2, h3, h4⟩ := hq
  have hp := h.2 _ h1
  have hl := hp.length_le
  have := h.1
  refine ⟨by omega, h2, by omega, ?_⟩
  rw [looseAt_pre hp h2 h3]
  exact h4
theorem Reach.lt {p : Prog α} {line : Bool} {room home late : Nat} {vis : List Nat} {t e c : Nat} (r : Reach p line room home late vis t e c) : t < p.length ∧ e < (th p t).length := by
  cases r with
  | base h1 h2 h3 => exact ⟨h1, firstMeet_lt h3⟩
  | step r h1 h2 h3 h4 => exact ⟨h2, firstMeet_lt h4⟩
theorem Le.reach {p p' : Prog α} (h : Le p p') {line : Bool} {room home late : Nat} (hh : home < p.length) (hl : late < (th p home).length) {vis : List Nat} {t e c : Nat} (r : Reach p line room home late vis t e c) :
    Reach p' line room home late vis t e c := by
  induction r with
  | base h1 h2 h3 =>
    rw [← h.cost hh hl]
    rw [← h.ins hh hl] at h3
    exact .base (Nat.lt_of_lt_of_le h1 h.1) h2 (firstMeet_pre (h.2 _ h1) h3)
  | step r h1 h2 h3 h4 ih =>
    have ht := r.lt.1
    rw [← h.cost ht h1.2.1]
    rw [← h.ins ht h1.2.1] at h4
    exact .step ih (IsExit_pre (h.2 _ ht) h1) (Nat.lt_of_lt_of_le h2 h.1) h3 (firstMeet_pre (h.2 _ h2) h4)
theorem Le.route {p p' : Prog α} (h : Le p p') {line : Bool} {room : Nat} {q : Tri} (h1 : q.1 < p.length) (h2 : q.2.1 < q.2.2) (h3 : q.2.2 < (th p q.1).length) {c : Nat} (r : Route p line room q c) : Route p' line room q c := by
  obtain ⟨vis, t, e, c', a, r1, r2, r3, r4⟩ := r
  have ht := r1.lt.1
  refine ⟨vis, t, e, c', a, h.reach h1 h3 r1, IsExit_pre (h.2 _ ht) r2, ?_, ?_⟩
  · rw [h.ins ht r2.2.1, h.ins h1 (by omega)]
    exact r3
  · rw [h.cost ht r2.2.1]
    exact r4
open Classical in
theorem Le.live {p p' : Prog α} (h : Le p p') {line : Bool} {room : Nat} {q : Tri} (hq : q ∈ live p line room) : q ∈ live p' line room := by
  unfold RF.live at hq ⊢
  rw [List.mem_filter] at hq ⊢
  obtain ⟨h1, h2⟩ := hq
  obtain ⟨m1, m2, m3, _⟩ := mem_loose.mp h1
  obtain ⟨c, hc⟩ := of_decide_eq_true h2
  exact ⟨h.loose h1, decide_eq_true ⟨c, h.route m1 m2 m3 hc⟩⟩
theorem Le.fewest {p p' : Prog α} (h : Le p p') {line : Bool} {room m : Nat} {r : Option Nat} (h1 : Fewest p line room (some m)) (h2 : Fewest p' line room r) : ∃ m', r = some m' ∧ m' ≤ m := by
  obtain ⟨⟨q, hq, hr⟩, _⟩ := h1
  obtain ⟨m1, m2, m3, _⟩ := mem_loose.mp hq
  have hr' := h.route m1 m2 m3 hr
  cases r with
  | none => exact absurd ⟨m, hr'⟩ (h2 q (h.loose hq))
  | some m' => exact ⟨m', rfl, h2.2 q m (h.loose hq) hr'⟩
theorem Le.thread (p : Prog α) (more : Th α) : Le p (p ++ [more]) := by
  refine ⟨by simp, fun t ht => ?_⟩
  have e : th (p ++ [more]) t = th p t := getD_pre (List.prefix_append _ _) ht
  rw [e]
  exact List.prefix_rfl
theorem Le.tail (p : Prog α) (k : Nat) (more : Th α) (hk : k < p.length) : Le p (p.take k ++ (th p k ++ more) :: p.drop (k + 1)) := by
  have hl : (p.take k ++ (th p k ++ more) :: p.drop (k + 1)).length = p.length := by
    simp only [List.length_append, List.length_take, List.length_cons, List.length_drop]; omega
  refine ⟨by omega, fun t ht => ?_⟩
  have hm : min k p.length = k := by omega
  unfold th
  rw [List.getD_eq_getElem?_getD, List.getD_eq_getElem?_getD]
  by_cases h1 : t < k
  · rw [List.getElem?_append_left (by rw [List.length_take]; omega), List.getElem?_take_of_lt h1]
    exact List.prefix_rfl
  · rw [List.getElem?_append_right (by rw [List.length_take]; omega), List.length_take, hm]
    by_cases h2 : t = k
    · subst h2
      rw [Nat.sub_self, List.getElem?_cons_zero, List.getD_eq_getElem?_getD]
      exact List.prefix_append _ _
    · obtain ⟨j, hj⟩ : ∃ j, t - k = j + 1 := ⟨t - k - 1, by omega⟩
      rw [hj, List.getElem?_cons_succ, List.getElem?_drop]
      have e : k + 1 + j = t := by omega
      rw [e]
      exact List.prefix_rfl
/-! ### side by side -/
theorem meets_comm (a b : Ins α) : a.meets b = b.meets a := by
  unfold Ins.meets
  rw [Bool.and_comm a.isAcc, Bool.or_comm a.doesStore]
  congr 2
  exact decide_eq_decide.mpr eq_comm
theorem meets_fence (b : Ins α) : (Ins.fence : Ins α).meets b = false := by
  unfold Ins.meets; rfl
theorem meets_fence' (b : Ins α) : b.meets (Ins.fence : Ins α) = false := by
  rw [meets_comm, meets_fence]
def Apart (p q : Prog α) : Prop := ∀ t, t ∈ p → ∀ u, u ∈ q → ∀ a, a ∈ t → ∀ b, b ∈ u → a.meets b = false
theorem Apart.symm {p q : Prog α} (h : Apart p q) : Apart q p := fun t ht u hu a ha b hb => by
  rw [meets_comm]; exact h u hu t ht b hb a ha
theorem getD_mem {β : Type} {l : List β} {i : Nat} {d : β} : l.getD i d ∈ l ∨ l.getD i d = d := by
  rw [List.getD_eq_getElem?_getD]
  cases e : l[i]? with
  | none => exact .inr rfl
  | some x => exact .inl (List.mem_of_getElem? e)
theorem th_mem {p : Prog α} {t : Nat} (h : t < p.length) : th p t ∈ p := by
  unfold th
  rw [List.getD_eq_getElem?_getD, List.getElem?_eq_getElem h]
  exact List.getElem_mem h
theorem Apart.ins {p q : Prog α} (h : Apart p q) {t a u : Nat} (ht : t < p.length) (hu : u < q.length) : firstMeet (RF.ins p t a) (th q u) = none := by
  unfold firstMeet
  rw [List.findIdx?_eq_none_iff]
  intro b hb
  rcases getD_mem (l := th p t) (i := a) (d := (Ins.fence : Ins α)) with k | k
  · exact h _ (th_mem ht) _ (th_mem hu) _ k _ hb
  · show ((th p t).getD a .fence).meets b = false
    rw [k]; exact meets_fence b
theorem th_left {p q : Prog α} {t : Nat} (h : t < p.length) : th (p ++ q) t = th p t := getD_pre (List.prefix_append _ _) h
theorem th_right {p q : Prog α} {t : Nat} : th (p ++ q) (t + p.length) = th q t := by
  unfold th
  rw [List.getD_eq_getElem?_getD, List.getD_eq_getElem?_getD, List.getElem?_append_right (Nat.le_add_left _ _), Nat.add_sub_cancel]
theorem Reach.left {p q : Prog α} (h : Apart p q) {line : Bool} {room home late : Nat} (hh : home < p.length) {vis : List Nat} {t e c : Nat} (r : Reach (p ++ q) line room home late vis t e c) : t < p.length ∧ Reach p line room home late vis t e c := by
  have key : ∀ {t a o e' : Nat}, t < p.length → o < (p ++ q).length → firstMeet (RF.ins (p ++ q) t a) (th (p ++ q) o) = some e' → o < p.length ∧ firstMeet (RF.ins p t a) (th p o) = some e' := by
    intro t a o e' ht ho hf
    have e1 : RF.ins (p ++ q) t a = RF.ins p t a := by unfold RF.ins; rw [th_left ht]
    rw [e1] at hf
    by_cases h2 : o < p.length
    · rw [th_left h2] at hf
      exact ⟨h2, hf⟩
    · obtain ⟨u, rfl⟩ : ∃ u, o = u + p.length := ⟨o - p.length, by omega⟩
      rw [th_right, h.ins ht (by rw [List.length_append] at ho; omega)] at hf
      cases hf
  induction r with
  | base h1 h2 h3 =>
    obtain ⟨k1, k2⟩ := key hh h1 h3
    refine ⟨k1, ?_⟩
    have e1 : cost (p ++ q) line room home late = cost p line room home late := by unfold cost; rw [th_left hh]
    rw [e1]
    exact .base k1 h2 k2
  | step r h1 h2 h3 h4 ih =>
    obtain ⟨ht, ir⟩ := ih
    obtain ⟨k1, k2⟩ := key ht h2 h4
    refine ⟨k1, ?_⟩
    have e1 : ∀ a, cost (p ++ q) line room _ a = cost p line room _ a := fun a => by unfold cost; rw [th_left ht]
    rw [e1]
    rw [th_left ht] at h1
    exact .step ir h1 k1 h3 k2
theorem Reach.toLeft {p q : Prog α} {line : Bool} {room home late : Nat} (hh : home < p.length) {vis : List Nat} {t e c : Nat} (r : Reach p line room home late vis t e c) : Reach (p ++ q) line room home late vis t e c := by
  have e0 : ∀ {t a}, t < p.length → RF.ins (p ++ q) t a = RF.ins p t a := fun ht => by unfold RF.ins; rw [th_left ht]
  have e1 : ∀ {t a}, t < p.length → cost (p ++ q) line room t a = cost p line room t a := fun ht => by unfold cost; rw [th_left ht]
  induction r with
  | base h1 h2 h3 =>
    rw [← e1 hh]
    exact .base (by rw [List.length_append]; omega) h2 (by rw [e0 hh, th_left h1]; exact h3)
  | step r h1 h2 h3 h4 ih =>
    have ht := r.lt.1
    rw [← e1 ht]
    exact .step ih (by rw [th_left ht]; exact h1) (by rw [List.length_append]; omega) h3 (by rw [e0 ht, th_left h2]; exact h4)
def up (n : Nat) (q : Tri) : Tri := (q.1 + n, q.2)
theorem Reach.right {p q : Prog α} (h : Apart p q) {line : Bool} {room home late : Nat} {vis : List Nat} {t e c : Nat} (hh : home < q.length) (r : Reach (p ++ q) line room (home + p.length) late vis t e c) :
    ∃ vis' t', vis = vis'.map (· + p.length) ∧ t = t' + p.length ∧ Reach q line room home late vis' t' e c := by
  have key : ∀ {t a o e' : Nat}, t < q.length → o < (p ++ q).length → firstMeet (RF.ins (p ++ q) (t + p.length) a) (th (p ++ q) o) = some e' → ∃ u, o = u + p.length ∧ u < q.length ∧ firstMeet (RF.ins q t a) (th q u) = some e' := by
    intro t a o e' ht ho hf
    have e1 : RF.ins (p ++ q) (t + p.length) a = RF.ins q t a := by unfold RF.ins; rw [th_right]
    rw [e1] at hf
    by_cases h2 : o < p.length
    · rw [th_left h2, h.symm.ins ht h2] at hf
      cases hf
    · obtain ⟨u, rfl⟩ : ∃ u, o = u + p.length := ⟨o - p.length, by omega⟩
      rw [th_right] at hf
      exact ⟨u, rfl, by rw [List.length_append] at ho; omega, hf⟩
  have e2 : ∀ t a, cost (p ++ q) line room (t + p.length) a = cost q line room t a := fun t a => by unfold cost; rw [th_right]
  induction r with
  | base h1 h2 h3 =>
    obtain ⟨u, rfl, k1, k2⟩ := key hh h1 h3
    refine ⟨[u, home], u, rfl, rfl, ?_⟩
    rw [e2]
    exact .base k1 (fun z => h2 (by rw [z])) k2
  | step r h1 h2 h3 h4 ih =>
    obtain ⟨vis', t', rfl, rfl, ir⟩ := ih
    obtain ⟨u, rfl, k1, k2⟩ := key ir.lt.1 h2 h4
    refine ⟨u :: vis', u, rfl, rfl, ?_⟩
    rw [e2]
    rw [th_right] at h1
    exact .step ir h1 k1 (fun z => h3 (List.mem_map.mpr ⟨u, z, rfl⟩)) k2
theorem Reach.toRight {p q : Prog α} {line : Bool} {room home late : Nat} {vis : List Nat} {t e c : Nat} (r : Reach q line room home late vis t e c) :
    Reach (p ++ q) line room (home + p.length) late (vis.map (· + p.length)) (t + p.length) e c := by
  have e0 : ∀ t a, RF.ins (p ++ q) (t + p.length) a = RF.ins q t a := fun t a => by unfold RF.ins; rw [th_right]
  have e1 : ∀ t a, cost (p ++ q) line room (t + p.length) a = cost q line room t a := fun t a => by unfold cost; rw [th_right]
  induction r with
  | base h1 h2 h3 =>
    rw [← e1]
    refine .base (o := _ + p.length) ?_ (fun z => h2 (Nat.add_right_cancel z)) (by rw [e0, th_right]; exact h3)
    rw [List.length_append]
    omega
  | step r h1 h2 h3 h4 ih =>
    rw [← e1]
    refine .step (o := _ + p.length) ih (by rw [th_right]; exact h1) (by rw [List.length_append]; omega) (fun z => ?_) (by rw [e0, th_right]; exact h4)
    obtain ⟨x, hx, hx2⟩ := List.mem_map.mp z
    have : x = _ := Nat.add_right_cancel hx2
    subst this
    exact h3 hx
theorem Route.left {p q : Prog α} (h : Apart p q) {line : Bool} {room : Nat} {d : Tri} (hd : d.1 < p.length) {c : Nat} : Route (p ++ q) line room d c ↔ Route p line room d c := by
  have e0 : ∀ {t a}, t < p.length → RF.ins (p ++ q) t a = RF.ins p t a := fun ht => by unfold RF.ins; rw [th_left ht]
  have e1 : ∀ {t a}, t < p.length → cost (p ++ q) line room t a = cost p line room t a := fun ht => by unfold cost; rw [th_left ht]
  constructor
  · rintro ⟨vis, t, e, c', a, r1, r2, r3, r4⟩
    obtain ⟨ht, r1'⟩ := r1.left h hd
    rw [th_left ht] at r2
    rw [e0 ht, e0 hd] at r3
    rw [e1 ht] at r4
    exact ⟨vis, t, e, c', a, r1', r2, r3, r4⟩
  · rintro ⟨vis, t, e, c', a, r1, r2, r3, r4⟩
    have ht := r1.lt.1
    refine ⟨vis, t, e, c', a, r1.toLeft hd, by rw [th_left ht]; exact r2, by rw [e0 ht, e0 hd]; exact r3, by rw [e1 ht]; exact r4⟩
theorem Route.right {p q : Prog α} (h : Apart p q) {line : Bool} {room : Nat} {d : Tri} (hd : d.1 < q.length) {c : Nat} : Route (p ++ q) line room (up p.length d) c ↔ Route q line room d c := by
  have e0 : ∀ t a, RF.ins (p ++ q) (t + p.length) a = RF.ins q t a := fun t a => by unfold RF.ins; rw [th_right]
  have e1 : ∀ t a, cost (p ++ q) line room (t + p.length) a = cost q line room t a := fun t a => by unfold cost; rw [th_right]
  constructor
  · rintro ⟨vis, t, e, c', a, r1, r2, r3, r4⟩
    obtain ⟨vis', t', rfl, rfl, r1'⟩ := Reach.right h hd r1
    rw [th_right] at r2
    have r3 : (RF.ins (p ++ q) (t' + p.length) a).meets (RF.ins (p ++ q) (d.1 + p.length) d.2.1) = true := r3
    rw [e0, e0] at r3
    rw [e1] at r4
    exact ⟨vis', t', e, c', a, r1', r2, r3, r4⟩
  · rintro ⟨vis, t, e, c', a, r1, r2, r3, r4⟩
    refine ⟨vis.map (· + p.length), t + p.length, e, c', a, r1.toRight, by rw [th_right]; exact r2, ?_, by rw [e1]; exact r4⟩
    show (RF.ins (p ++ q) (t + p.length) a).meets (RF.ins (p ++ q) (d.1 + p.length) d.2.1) = true
    rw [e0, e0]
    exact r3
theorem looseE_up (t : Th α) (line : Bool) (room k n e : Nat) : looseE t line room (k + n) e = (looseE t line room k e).map (up n) := by
  unfold looseE
  rw [List.map_map]
  rfl
theorem looseT_up (t : Th α) (line : Bool) (room k n : Nat) : looseT t line room (k + n) = (looseT t line room k).map (up n) := by
  unfold looseT
  rw [List.map_flatMap]
  congr 1
  funext e
  exact looseE_up t line room k n e
theorem looseFrom_up (line : Bool) (room n : Nat) : ∀ (p : Prog α) (k : Nat), looseFrom line room (k + n) p = (looseFrom line room k p).map (up n)
  | [], _ => rfl
  | t :: r, k => by
    rw [looseFrom, looseFrom, List.map_append, looseT_up, Nat.add_right_comm k n 1, looseFrom_up line room n r]
theorem looseFrom_append (line : Bool) (room : Nat) : ∀ (p q : Prog α) (k : Nat), looseFrom line room k (p ++ q) = looseFrom line room k p ++ looseFrom line room (k + p.length) q
  | [], q, k => by simp [looseFrom]
  | t :: r, q, k => by
    rw [List.cons_append, looseFrom, looseFrom, looseFrom_append line room r q, List.append_assoc, List.length_cons]
    congr 3
    omega
theorem loose_append (line : Bool) (room : Nat) (p q : Prog α) : loose (p ++ q) line room = loose p line room ++ (loose q line room).map (up p.length) := by
  unfold loose
  rw [looseFrom_append, looseFrom_up]
open Classical in
theorem live_append {p q : Prog α} (h : Apart p q) (line : Bool) (room : Nat) : live (p ++ q) line room = live p line room ++ (live q line room).map (up p.length) := by
  unfold live
  rw [loose_append, List.filter_append, List.filter_map]
  congr 1
  · refine List.filter_congr fun d hd => ?_
    have := (mem_loose.mp hd).1
    unfold Live
    exact decide_eq_decide.mpr ⟨fun ⟨c, hc⟩ => ⟨c, (Route.left h this).mp hc⟩, fun ⟨c, hc⟩ => ⟨c, (Route.left h this).mpr hc⟩⟩
  · congr 1
    refine List.filter_congr fun d hd => ?_
    have := (mem_loose.mp hd).1
    show decide (Live (p ++ q) line room (up p.length d)) = decide (Live q line room d)
    unfold Live
    exact decide_eq_decide.mpr ⟨fun ⟨c, hc⟩ => ⟨c, (Route.right h this).mp hc⟩, fun ⟨c, hc⟩ => ⟨c, (Route.right h this).mpr hc⟩⟩
theorem fewest_append {p q : Prog α} (h : Apart p q) {line : Bool} {room : Nat} {r a b : Option Nat} (hr : Fewest (p ++ q) line room r) (ha : Fewest p line room a) (hb : Fewest q line room b) : r = leastO a b := by
  have ml : ∀ d, d ∈ loose p line room → d ∈ loose (p ++ q) line room := fun d hd => by rw [loose_append]; exact List.mem_append_left _ hd
  have mr : ∀ d, d ∈ loose q line room → up p.length d ∈ loose (p ++ q) line room := fun d hd => by rw [loose_append]; exact List.mem_append_right _ (List.mem_map.mpr ⟨d, hd, rfl⟩)
  have ex : ∀ d c, d ∈ loose (p ++ q) line room → Route (p ++ q) line room d c → (d ∈ loose p line room ∧ Route p line room d c) ∨ ∃ d', d' ∈ loose q line room ∧ Route q line room d' c := fun d c hd hc => by
    rw [loose_append, List.mem_append] at hd
    rcases hd with hd | hd
    · exact .inl ⟨hd, (Route.left h (mem_loose.mp hd).1).mp hc⟩
    · obtain ⟨d', hd', rfl⟩ := List.mem_map.mp hd
      exact .inr ⟨d', hd', (Route.right h (mem_loose.mp hd').1).mp hc⟩
  -- what either one has is had
  have la : ∀ m, a = some m → ∃ k, r = some k ∧ k ≤ m := fun m e => by
    subst e
    obtain ⟨⟨d, hd, hc⟩, _⟩ := ha
    have hc' := (Route.left h (mem_loose.mp hd).1).mpr hc
    cases r with
    | none => exact absurd ⟨m, hc'⟩ (hr d (ml d hd))
    | some k => exact ⟨k, rfl, hr.2 d m (ml d hd) hc'⟩
  have lb : ∀ m, b = some m → ∃ k, r = some k ∧ k ≤ m := fun m e => by
    subst e
    obtain ⟨⟨d, hd, hc⟩, _⟩ := hb
    have hc' := (Route.right h (mem_loose.mp hd).1).mpr hc
    cases r with
    | none => exact absurd ⟨m, hc'⟩ (hr _ (mr d hd))
    | some k => exact ⟨k, rfl, hr.2 _ m (mr d hd) hc'⟩
  have ra : ∀ d c, d ∈ loose p line room → Route p line room d c → ∃ m, a = some m ∧ m ≤ c := fun d c hd hc => by
    cases a with
    | none => exact absurd ⟨c, hc⟩ (ha d hd)
    | some m => exact ⟨m, rfl, ha.2 d c hd hc⟩
  have rb : ∀ d c, d ∈ loose q line room → Route q line room d c → ∃ m, b = some m ∧ m ≤ c := fun d c hd hc => by
    cases b with
    | none => exact absurd ⟨c, hc⟩ (hb d hd)
    | some m => exact ⟨m, rfl, hb.2 d c hd hc⟩
  cases r with
  | none =>
    cases a with
    | some m => obtain ⟨k, hk, _⟩ := la m rfl; cases hk
    | none =>
      cases b with
      | some m => obtain ⟨k, hk, _⟩ := lb m rfl; cases hk
      | none => rfl
  | some k =>
    obtain ⟨⟨d, hd, hc⟩, _⟩ := hr
    have hx : (∃ m, a = some m ∧ m ≤ k) ∨ ∃ m, b = some m ∧ m ≤ k := by
      rcases ex d k hd hc with ⟨h1, h2⟩ | ⟨d', h1, h2⟩
      · exact .inl (ra d k h1 h2)
      · exact .inr (rb d' k h1 h2)
    cases a with
    | none =>
      cases b with
      | none => rcases hx with ⟨m, hm, _⟩ | ⟨m, hm, _⟩ <;> cases hm
      | some y =>
        obtain ⟨k', e, hk⟩ := lb y rfl
        cases e
        rcases hx with ⟨m, hm, _⟩ | ⟨m, hm, hm2⟩
        · cases hm
        · cases hm
          show some k = some y
          congr 1; omega
    | some x =>
      obtain ⟨k', e, hk⟩ := la x rfl
      cases e
      cases b with
      | none =>
        rcases hx with ⟨m, hm, hm2⟩ | ⟨m, hm, _⟩
        · cases hm
          show some k = some x
          congr 1; omega
        · cases hm
      | some y =>
        obtain ⟨k', e, hk2⟩ := lb y rfl
        cases e
        show some k = some (min x y)
        congr 1
        rcases hx with ⟨m, hm, hm2⟩ | ⟨m, hm, hm2⟩ <;> cases hm <;> omega
theorem foldl_min : ∀ (l : List Nat) (a : Nat), l.foldl min a = match minO l with | none => a | some m => min a m
  | [], a => rfl
  | x :: r, a => by
    show r.foldl min (min a x) = min a (r.foldl min x)
    rw [foldl_min r (min a x), foldl_min r x]
    cases minO r with
    | none => rfl
    | some m => show min (min a x) m = min a (min x m); omega
theorem minO_append (a b : List Nat) : minO (a ++ b) = leastO (minO a) (minO b) := by
  cases a with
  | nil => cases b <;> rfl
  | cons x r =>
    show some ((r ++ b).foldl min x) = leastO (some (r.foldl min x)) (minO b)
    rw [List.foldl_append, foldl_min b]
    cases minO b with
    | none => rfl
    | some m => rfl
theorem leastRoom_append {p q : Prog α} (h : Apart p q) (line : Bool) : leastRoom (p ++ q) line = leastO (leastRoom p line) (leastRoom q line) := by
  unfold leastRoom
  rw [← minO_append]
  congr 1
  unfold rooms
  rw [live_append h, List.map_append, List.map_map]
  congr 1
  · refine List.map_congr_left fun d hd => ?_
    have : d.1 < p.length := (mem_loose.mp (List.mem_filter.mp hd).1).1
    rw [th_left this]
  · refine List.map_congr_left fun d hd => ?_
    show queued (th (p ++ q) (d.1 + p.length)) line d.2.1 d.2.2 = _
    rw [th_right]
end
end RF
end

section
set_option Elab.async false
set_option linter.all false
set_option maxRecDepth 100000
set_option maxHeartbeats 4000000
/-! Data: tuples of tuples, numbers, texts, as they lie in the abstract heap; what an expression gives, as data. -/
namespace RFW
open PySem L2 Evl

mutual
/-- the value v is the datum d: scalars, and tuples that stand in the heap -/
inductive Td (H : Hp) : V → PyData → Prop
  | non : Td H .non .none
  | bl (b : Bool) : Td H (.bl b) (.bool b)
  | int (i : Int) : Td H (.int i) (.int i)
  | str (x : Str) : Td H (.str x) (.str x)
  | tup {a : Addr} {xs : List V} {ds : List PyData} : H a = some (.tup xs) → xs.length ≤ 100000 → TdAll H xs ds → Td H (.ref a) (.tuple ds)
inductive TdAll (H : Hp) : List V → List PyData → Prop
  | nil : TdAll H [] []
  | cons {v : V} {vs : List V} {d : PyData} {ds : List PyData} : Td H v d → TdAll H vs ds → TdAll H (v :: vs) (d :: ds)
end
/-- tuples are kept: so it is whatever happens -/
def TK (H H' : Hp) : Prop := ∀ a xs, H a = some (.tup xs) → H' a = some (.tup xs)
theorem TK.refl (H : Hp) : TK H H := fun _ _ h => h
theorem TK.trans {H H1 H2 : Hp} (a : TK H H1) (b : TK H1 H2) : TK H H2 := fun x o h => b x o (a x o h)
theorem TK.ex {H H' : Hp} (e : Ex H H') : TK H H' := fun a xs h => e a _ h
theorem TK.upd {H : Hp} {a : Addr} {o : HO} (h : ∀ xs, H a ≠ some (.tup xs)) : TK H (upd H a o) := fun b xs e => by
  rw [upd_ne]
  · exact e
  · rintro rfl; exact h xs e
theorem TK.lst {H : Hp} {a : Addr} {ys : List V} {o : HO} (h : H a = some (.lst ys)) : TK H (L2.upd H a o) := TK.upd fun xs e => by rw [h] at e; cases e
theorem TK.dT {H : Hp} {a : Addr} {ys : List (List Key × V)} {o : HO} (h : H a = some (.dT ys)) : TK H (L2.upd H a o) := TK.upd fun xs e => by rw [h] at e; cases e
theorem TK.ins {H : Hp} {a C dx : Addr} {fs : List (Str × V)} {o : HO} (h : H a = some (.ins C dx fs)) : TK H (L2.upd H a o) := TK.upd fun xs e => by rw [h] at e; cases e
theorem TK.new {H : Hp} {a : Addr} {o : HO} (h : H a = none) : TK H (L2.upd H a o) := TK.upd fun xs e => by rw [h] at e; cases e
mutual
theorem Td.keep {H H' : Hp} (k : TK H H') : ∀ {d : PyData} {v : V}, Td H v d → Td H' v d
  | .none, _, h => by cases h; exact .non
  | .bool _, _, h => by cases h; exact .bl _
  | .int _, _, h => by cases h; exact .int _
  | .str _, _, h => by cases h; exact .str _
  | .tuple ds, _, h => by
    cases h with
    | tup h1 hz h2 => exact .tup (k _ _ h1) hz (TdAll.keep k h2)
  | .list _, _, h => by cases h
  | .dict _, _, h => by cases h
theorem TdAll.keep {H H' : Hp} (k : TK H H') : ∀ {ds : List PyData} {vs : List V}, TdAll H vs ds → TdAll H' vs ds
  | [], _, h => by cases h; exact .nil
  | d :: ds, _, h => by
    cases h with
    | cons h1 h2 => exact .cons (Td.keep k h1) (TdAll.keep k h2)
end
theorem Td.ex {H H' : Hp} {v : V} {d : PyData} (h : Td H v d) (e : Ex H H') : Td H' v d := h.keep (TK.ex e)
theorem TdAll.ex {H H' : Hp} {v : List V} {d : List PyData} (h : TdAll H v d) (e : Ex H H') : TdAll H' v d := h.keep (TK.ex e)
mutual
theorem Td.dp {K : PySem.W.Frag} {H : Hp} : ∀ {d : PyData} {v : V}, Td H v d → Dp K H v d
  | .none, _, h => by cases h; exact .non
  | .bool _, _, h => by cases h; exact .bl _
  | .int _, _, h => by cases h; exact .int _
  | .str _, _, h => by cases h; exact .str _
  | .tuple ds, _, h => by
    cases h with
    | tup h1 hz h2 => exact .tup (SqT.of h1) (TdAll.dp h2)
  | .list _, _, h => by cases h
  | .dict _, _, h => by cases h
theorem TdAll.dp {K : PySem.W.Frag} {H : Hp} : ∀ {ds : List PyData} {vs : List V}, TdAll H vs ds → DpAll K H vs ds
  | [], _, h => by cases h; exact .nil
  | d :: ds, _, h => by
    cases h with
    | cons h1 h2 => exact .cons (Td.dp h1) (TdAll.dp h2)
end
section
variable {H : Hp}
theorem Td.int_inv {v : V} {i : Int} (h : Td H v (.int i)) : v = .int i := by cases h; rfl
theorem Td.str_inv {v : V} {x : Str} (h : Td H v (.str x)) : v = .str x := by cases h; rfl
theorem Td.bl_inv {v : V} {b : Bool} (h : Td H v (.bool b)) : v = .bl b := by cases h; rfl
theorem Td.non_inv {v : V} (h : Td H v .none) : v = .non := by cases h; rfl
theorem Td.tup_inv {v : V} {ds : List PyData} (h : Td H v (.tuple ds)) : ∃ a xs, v = .ref a ∧ H a = some (.tup xs) ∧ xs.length ≤ 100000 ∧ TdAll H xs ds := by
  cases h with
  | tup h1 hz h2 => exact ⟨_, _, rfl, h1, hz, h2⟩
theorem TdAll.length : ∀ {ds : List PyData} {vs : List V}, TdAll H vs ds → vs.length = ds.length
  | [], _, h => by cases h; rfl
  | d :: ds, _, h => by
    cases h with
    | cons h1 h2 => rw [List.length_cons, List.length_cons, TdAll.length h2]
theorem TdAll.get : ∀ {ds : List PyData} {vs : List V} {i : Nat} {d : PyData}, TdAll H vs ds → ds[i]? = some d → ∃ v, vs[i]? = some v ∧ Td H v d
  | [], _, i, d, h, e => by simp at e
  | d :: ds, _, 0, d', h, e => by
    cases h with
    | cons h1 h2 =>
      simp at e; subst e
      exact ⟨_, rfl, h1⟩
  | d :: ds, _, i + 1, d', h, e => by
    cases h with
    | cons h1 h2 =>
      obtain ⟨v, hv, hd⟩ := TdAll.get (i := i) h2 (by simpa using e)
      exact ⟨v, by simpa using hv, hd⟩
theorem TdAll.get' : ∀ {ds : List PyData} {vs : List V} {i : Nat} {v : V}, TdAll H vs ds → vs[i]? = some v → ∃ d, ds[i]? = some d ∧ Td H v d
  | [], _, i, d, h, e => by cases h; simp at e
  | d :: ds, _, 0, d', h, e => by
    cases h with
    | cons h1 h2 =>
      simp at e; subst e
      exact ⟨_, rfl, h1⟩
  | d :: ds, _, i + 1, d', h, e => by
    cases h with
    | cons h1 h2 =>
      obtain ⟨v, hv, hd⟩ := TdAll.get' (i := i) h2 (by simpa using e)
      exact ⟨v, by simpa using hv, hd⟩
theorem TdAll.append : ∀ {ds es : List PyData} {vs ws : List V}, TdAll H vs ds → TdAll H ws es → TdAll H (vs ++ ws) (ds ++ es)
  | [], _, _, _, h, k => by cases h; exact k
  | d :: ds, _, _, _, h, k => by
    cases h with
    | cons h1 h2 => exact .cons h1 (TdAll.append h2 k)
theorem TdAll.drop : ∀ {ds : List PyData} {vs : List V} (n : Nat), TdAll H vs ds → TdAll H (vs.drop n) (ds.drop n)
  | _, _, 0, h => h
  | [], _, n + 1, h => by cases h; exact .nil
  | d :: ds, _, n + 1, h => by
    cases h with
    | cons h1 h2 => exact TdAll.drop n h2
theorem TdAll.take : ∀ {ds : List PyData} {vs : List V} (n : Nat), TdAll H vs ds → TdAll H (vs.take n) (ds.take n)
  | _, _, 0, h => .nil
  | [], _, n + 1, h => by cases h; exact .nil
  | d :: ds, _, n + 1, h => by
    cases h with
    | cons h1 h2 => exact .cons h1 (TdAll.take n h2)
theorem TdAll.ints : ∀ (ns : List Int), TdAll H (ns.map .int) (ns.map .int)
  | [] => .nil
  | n :: r => .cons (.int n) (TdAll.ints r)
theorem TdAll.ints_inv : ∀ {ns : List Int} {vs : List V}, TdAll H vs (ns.map .int) → vs = ns.map .int
  | [], _, h => by cases h; rfl
  | n :: r, _, h => by
    cases h with
    | cons h1 h2 => rw [h1.int_inv, TdAll.ints_inv h2]; rfl
theorem TdAll.one {v : V} {d : PyData} (h : Td H v d) : TdAll H [v] [d] := .cons h .nil
theorem TdAll.two {v u : V} {d e : PyData} (h : Td H v d) (k : Td H u e) : TdAll H [v, u] [d, e] := .cons h (.cons k .nil)
theorem TdAll.inv1 {vs : List V} {d : PyData} (h : TdAll H vs [d]) : ∃ v, vs = [v] ∧ Td H v d := by
  cases h with
  | cons h1 h2 => cases h2; exact ⟨_, rfl, h1⟩
theorem TdAll.inv2 {vs : List V} {d e : PyData} (h : TdAll H vs [d, e]) : ∃ v u, vs = [v, u] ∧ Td H v d ∧ Td H u e := by
  cases h with
  | cons h1 h2 =>
    obtain ⟨u, rfl, h3⟩ := h2.inv1
    exact ⟨_, _, rfl, h1, h3⟩
theorem TdAll.inv3 {vs : List V} {d e f : PyData} (h : TdAll H vs [d, e, f]) : ∃ v u w, vs = [v, u, w] ∧ Td H v d ∧ Td H u e ∧ Td H w f := by
  cases h with
  | cons h1 h2 =>
    obtain ⟨u, w, rfl, h3, h4⟩ := h2.inv2
    exact ⟨_, _, _, rfl, h1, h3, h4⟩
theorem TdAll.inv4 {vs : List V} {d e f g : PyData} (h : TdAll H vs [d, e, f, g]) : ∃ v u w x, vs = [v, u, w, x] ∧ Td H v d ∧ Td H u e ∧ Td H w f ∧ Td H x g := by
  cases h with
  | cons h1 h2 =>
    obtain ⟨u, w, x, rfl, h3, h4, h5⟩ := h2.inv3
    exact ⟨_, _, _, _, rfl, h1, h3, h4, h5⟩
theorem TdAll.nil_inv {vs : List V} (h : TdAll H vs []) : vs = [] := by cases h; rfl
end

/-! ### what an expression gives -/
abbrev Rel := V → Hp → Prop
abbrev Dt (d : PyData) : Rel := fun v H => Td H v d
/-- te gives a value of which R holds; what stood stands -/
def EvR (te : TE) (σ : St) (H : Hp) (R : Rel) : Prop := ∀ H1, Ex H H1 → ∀ Q : VK, (∀ v H2, Ex H1 H2 → R v H2 → Q v H2) → te σ H1 Q
abbrev EvD (te : TE) (σ : St) (H : Hp) (d : PyData) : Prop := EvR te σ H (Dt d)
/-- arguments: data all -/
def EvDs (ta : TA) (σ : St) (H : Hp) (ds : List PyData) : Prop := ∀ H1, Ex H H1 → ∀ Q : List V → Hp → Prop, (∀ vs H2, Ex H1 H2 → TdAll H2 vs ds → Q vs H2) → ta σ H1 Q
section
variable {K : PySem.W.Frag} {σ : St} {H H' : Hp} {ta tb te : TE} {tA : TA} {t u : TT} {d d' : PyData} {ds es : List PyData} {R R' : Rel}
theorem EvR.mono (e : Ex H H') (h : EvR te σ H R) : EvR te σ H' R := fun H1 a Q q => h H1 (e.trans a) Q q
theorem EvDs.mono (e : Ex H H') (h : EvDs tA σ H ds) : EvDs tA σ H' ds := fun H1 a Q q => h H1 (e.trans a) Q q
theorem EvR.imp (h : EvR te σ H R) (k : ∀ v H1, Ex H H1 → R v H1 → R' v H1) : EvR te σ H R' := fun H1 e Q q => h H1 e Q fun v H2 e2 r => q v H2 e2 (k v H2 (e.trans e2) r)
theorem EvR.use (h : EvR te σ H R) {Q : VK} (q : ∀ v H2, Ex H H2 → R v H2 → Q v H2) : te σ H Q := h H (Ex.refl H) Q q
theorem EvD.is (h : EvD te σ H d) (e : d = d') : EvD te σ H d' := e ▸ h
theorem evd_var {i : Nat} {v : V} (h : σ[i]? = some (some v)) (hv : Td H v d) : EvD (tVar i) σ H d := fun H1 e Q q => ⟨v, h, q v H1 (Ex.refl H1) (hv.ex e)⟩
theorem evr_var {i : Nat} {v : V} (h : σ[i]? = some (some v)) (hv : ∀ H1, Ex H H1 → R v H1) : EvR (tVar i) σ H R := fun H1 e Q q => ⟨v, h, q v H1 (Ex.refl H1) (hv H1 e)⟩
theorem evd_int {i : Int} : EvD (tC (.int i)) σ H (.int i) := fun H1 _ Q q => q _ H1 (Ex.refl H1) (.int i)
theorem evd_str {x : Str} : EvD (tC (.str x)) σ H (.str x) := fun H1 _ Q q => q _ H1 (Ex.refl H1) (.str x)
theorem evd_bl {x : Bool} : EvD (tC (.bl x)) σ H (.bool x) := fun H1 _ Q q => q _ H1 (Ex.refl H1) (.bl x)
theorem evd_non : EvD (tC .non) σ H .none := fun H1 _ Q q => q _ H1 (Ex.refl H1) .non
theorem ev_int {i : Int} (h : EvD te σ H (.int i)) : Ev te σ H (.int i) := fun H1 e Q q => h H1 e Q fun v H2 e2 r => by rw [r.int_inv]; exact q H2 e2
theorem ev_str {i : Str} (h : EvD te σ H (.str i)) : Ev te σ H (.str i) := fun H1 e Q q => h H1 e Q fun v H2 e2 r => by rw [r.str_inv]; exact q H2 e2
theorem ev_bl {i : Bool} (h : EvD te σ H (.bool i)) : Ev te σ H (.bl i) := fun H1 e Q q => h H1 e Q fun v H2 e2 r => by rw [r.bl_inv]; exact q H2 e2
theorem evd_of_int {i : Int} (h : Ev te σ H (.int i)) : EvD te σ H (.int i) := fun H1 e Q q => h H1 e Q fun H2 e2 => q _ H2 e2 (.int i)
theorem evd_of_bl {i : Bool} (h : Ev te σ H (.bl i)) : EvD te σ H (.bool i) := fun H1 e Q q => h H1 e Q fun H2 e2 => q _ H2 e2 (.bl i)
theorem evd_of_str {i : Str} (h : Ev te σ H (.str i)) : EvD te σ H (.str i) := fun H1 e Q q => h H1 e Q fun H2 e2 => q _ H2 e2 (.str i)
theorem evr_ev {v : V} (h : Ev te σ H v) (hv : ∀ H1, Ex H H1 → R v H1) : EvR te σ H R := fun H1 e Q q => h H1 e Q fun H2 e2 => q _ H2 e2 (hv H2 (e.trans e2))

theorem evds_nil : EvDs tNil σ H [] := fun H1 _ Q q => q _ H1 (Ex.refl H1) .nil
theorem evds_cons {tr : TA} (h : EvD te σ H d) (hr : EvDs tr σ H ds) : EvDs (tCons te tr) σ H (d :: ds) := fun H1 e Q q =>
  h H1 e _ fun v H2 e2 r2 => hr H2 (e.trans e2) _ fun vs H3 e3 r3 => q _ H3 (e2.trans e3) (.cons (r2.ex e3) r3)
theorem evds1 (h : EvD te σ H d) : EvDs (tCons te tNil) σ H [d] := evds_cons h evds_nil

/-! ### subscripts, tuples, slices -/
theorem TdAll.at (h : TdAll H vs ds) {i : Int} (e : atI ds i = some d) : ∃ v, atI vs i = some v ∧ Td H v d := by
  unfold atI at *
  rw [h.length]
  cases q : ixN ds.length i with
  | none => rw [q] at e; cases e
  | some j =>
    rw [q] at e
    exact h.get e
theorem evd_ix {i : Int} (ha : EvD ta σ H (.tuple ds)) (hb : EvD tb σ H (.int i)) (e : atI ds i = some d) : EvD (tOp (rIxT K) ta tb) σ H d := fun H1 e1 Q q =>
  ha H1 e1 _ fun v H2 e2 r2 => hb H2 (e1.trans e2) _ fun y H3 e3 r3 => by
    obtain ⟨a, xs, rfl, hx, hz, r⟩ := (r2.ex e3).tup_inv
    obtain ⟨v, hv, hd⟩ := r.at e
    exact ⟨a, xs, i, v, rfl, r3.int_inv, SqT.of hx, hv, q v H3 (e2.trans e3) hd⟩
theorem evd_tup {tA : TA} (h : EvDs tA σ H ds) (hl : ds.length ≤ 100000) : EvD (tTup tA) σ H (.tuple ds) := fun H1 e Q q =>
  h H1 e _ fun vs H2 e2 r => ⟨by rw [r.length]; exact sz_of hl, fun p hp => q (.ref p) (upd H2 p (.tup vs)) (e2.trans (Ex.new hp)) (.tup upd_same (by rw [r.length]; exact hl) (r.ex (Ex.new hp)))⟩
/-- the items of a slice -/
def cutD {α : Type} (xs : List α) (lo hi : Option Int) : List α := (xs.drop (HT.sIx xs.length 0 lo)).take (HT.sIx xs.length xs.length hi - HT.sIx xs.length 0 lo)
theorem cut_all {α : Type} {xs : List α} {lo hi : Option Int} (h : HT.sIx xs.length 0 lo = 0 ∧ HT.sIx xs.length xs.length hi = xs.length) : cutD xs lo hi = xs := by
  unfold cutD
  rw [h.1, h.2]
  simp
theorem evd_sl {tl th : TO} {lo hi : Option Int} (h : EvD te σ H (.tuple ds)) (h1 : EvO tl σ H lo) (h2 : EvO th σ H hi) : EvD (tSl (rSlA K) te tl th) σ H (.tuple (cutD ds lo hi)) := fun H1 e1 Q q =>
  h H1 e1 _ fun v H2 e2 r2 => h1 H2 (e1.trans e2) _ fun H3 e3 => h2 H3 ((e1.trans e2).trans e3) _ fun H4 e4 => by
    obtain ⟨a, xs, rfl, hx, hz, r⟩ := (r2.ex (e3.trans e4)).tup_inv
    have hl := r.length
    refine ⟨a, xs, rfl, SqT.of hx, fun hw => ?_, fun hw p hp => ?_⟩
    · refine q (.ref a) H4 ((e2.trans e3).trans e4) ?_
      rw [hl] at hw
      rw [cut_all hw]
      exact .tup hx hz r
    · refine q (.ref p) _ (((e2.trans e3).trans e4).trans (Ex.new hp)) (.tup upd_same (Nat.le_trans (cutV_length _ _ _) hz) ?_)
      unfold cutV cutD
      rw [hl]
      exact ((r.drop _).take _).ex (Ex.new hp)
theorem evd_len (h : EvD te σ H (.tuple ds)) : EvD (tCB (rLenS K) (tCons te tNil)) σ H (.int (ds.length : Nat)) := fun H1 e Q q =>
  h H1 e _ fun v H2 e2 r => by
    obtain ⟨a, xs, rfl, hx, hz, r⟩ := r.tup_inv
    exact ⟨a, xs, rfl, .inr (SqT.of hx), q _ H2 e2 (by rw [r.length]; exact .int _)⟩

/-! ### operators -/
theorem evd_op {r : R2} (ha : EvD ta σ H d) (hb : EvD tb σ H d') {R : Rel} (k : ∀ x y H1, Ex H H1 → Td H1 x d → Td H1 y d' → ∀ Q : VK, (∀ v H2, Ex H1 H2 → R v H2 → Q v H2) → r x y H1 Q) : EvR (tOp r ta tb) σ H R := fun H1 e1 Q q =>
  ha H1 e1 _ fun x H2 e2 r2 => hb H2 (e1.trans e2) _ fun y H3 e3 r3 => k x y H3 ((e1.trans e2).trans e3) (r2.ex e3) r3 Q fun v H4 e4 r4 => q v H4 ((e2.trans e3).trans e4) r4
theorem evd_eqD (ha : EvD ta σ H d) (hb : EvD tb σ H d') (sd : SeqAt.shaped d = true) (se : SeqAt.shaped d' = true) : EvD (tOp (rEqD K) ta tb) σ H (.bool (PyData.eqv d d')) :=
  evd_op ha hb fun x y H1 _ r1 r2 Q q => ⟨d, d', r1.dp, r2.dp, sd, se, q _ H1 (Ex.refl H1) (.bl _)⟩
theorem evd_neD (ha : EvD ta σ H d) (hb : EvD tb σ H d') (sd : SeqAt.shaped d = true) (se : SeqAt.shaped d' = true) : EvD (tOp (rNeD K) ta tb) σ H (.bool (!PyData.eqv d d')) :=
  evd_op ha hb fun x y H1 _ r1 r2 Q q => ⟨d, d', r1.dp, r2.dp, sd, se, q _ H1 (Ex.refl H1) (.bl _)⟩
theorem evd_eqS {x y : Str} (ha : EvD ta σ H (.str x)) (hb : EvD tb σ H (.str y)) : EvD (tOp rEq ta tb) σ H (.bool (decide (x = y))) :=
  evd_op ha hb fun a b H1 _ r1 r2 Q q => by
    rw [r1.str_inv, r2.str_inv]
    refine ⟨rfl, q _ H1 (Ex.refl H1) ?_⟩
    have e : decide (V.str x = V.str y) = decide (x = y) := decide_eq_decide.mpr ⟨fun h => V.str.inj h, fun h => by rw [h]⟩
    rw [e]; exact .bl _
theorem evd_neS {x y : Str} (ha : EvD ta σ H (.str x)) (hb : EvD tb σ H (.str y)) : EvD (tOp rNe ta tb) σ H (.bool (!decide (x = y))) :=
  evd_op ha hb fun a b H1 _ r1 r2 Q q => by
    rw [r1.str_inv, r2.str_inv]
    refine ⟨rfl, q _ H1 (Ex.refl H1) ?_⟩
    have e : decide (V.str x = V.str y) = decide (x = y) := decide_eq_decide.mpr ⟨fun h => V.str.inj h, fun h => by rw [h]⟩
    rw [e]; exact .bl _
theorem evd_eqI {x y : Int} (ha : EvD ta σ H (.int x)) (hb : EvD tb σ H (.int y)) : EvD (tOp rEq ta tb) σ H (.bool (decide (x = y))) :=
  evd_op ha hb fun a b H1 _ r1 r2 Q q => by
    rw [r1.int_inv, r2.int_inv]
    refine ⟨rfl, q _ H1 (Ex.refl H1) ?_⟩
    have e : decide (V.int x = V.int y) = decide (x = y) := decide_eq_decide.mpr ⟨fun h => V.int.inj h, fun h => by rw [h]⟩
    rw [e]; exact .bl _
theorem evd_I0 {g : Int → Int → Int} {i j : Int} (ha : EvD ta σ H (.int i)) (hb : EvD tb σ H (.int j)) : EvD (tOp (rI0 fun i j => .int (g i j)) ta tb) σ H (.int (g i j)) :=
  evd_op ha hb fun x y H1 _ r1 r2 Q q => ⟨i, j, r1.int_inv, r2.int_inv, q _ H1 (Ex.refl H1) (.int _)⟩
theorem evd_I0b {g : Int → Int → Bool} {i j : Int} (ha : EvD ta σ H (.int i)) (hb : EvD tb σ H (.int j)) : EvD (tOp (rI0 fun i j => .bl (g i j)) ta tb) σ H (.bool (g i j)) :=
  evd_op ha hb fun x y H1 _ r1 r2 Q q => ⟨i, j, r1.int_inv, r2.int_inv, q _ H1 (Ex.refl H1) (.bl _)⟩
theorem evd_I {C : Int → Int → Prop} {g : Int → Int → Int} {i j : Int} (ha : EvD ta σ H (.int i)) (hb : EvD tb σ H (.int j)) (hc : C i j) : EvD (tOp (rI C fun i j => .int (g i j)) ta tb) σ H (.int (g i j)) :=
  evd_op ha hb fun x y H1 _ r1 r2 Q q => ⟨i, j, r1.int_inv, r2.int_inv, hc, q _ H1 (Ex.refl H1) (.int _)⟩
/-- is None, is not None -/
def isNone : PyData → Bool
  | .none => true
  | _ => false
theorem Td.isNone {H : Hp} {v : V} {d : PyData} (h : Td H v d) : decide (v = .non) = isNone d := by
  cases h <;> rfl
theorem evd_isN (ha : EvD ta σ H d) : EvD (tOp (fun x y H Q => y = .non ∧ Q (.bl (decide (x = .non))) H) ta (tC .non)) σ H (.bool (isNone d)) :=
  evd_op ha evd_non fun x y H1 _ r1 r2 Q q => ⟨r2.non_inv, q _ H1 (Ex.refl H1) (by rw [r1.isNone]; exact .bl _)⟩
theorem evd_notN (ha : EvD ta σ H d) : EvD (tOp (fun x y H Q => y = .non ∧ Q (.bl (!decide (x = .non))) H) ta (tC .non)) σ H (.bool (!isNone d)) :=
  evd_op ha evd_non fun x y H1 _ r1 r2 Q q => ⟨r2.non_inv, q _ H1 (Ex.refl H1) (by rw [r1.isNone]; exact .bl _)⟩

/-! ### tests -/
theorem evt_test {b : Bool} (h : EvD te σ H (.bool b)) : EvT (tTest te) σ H b := et_test (ev_bl h)
theorem evt_B {b : Bool} (h : EvD te σ H (.bool b)) : EvT (tB te) σ H b := et_B (ev_bl h)
theorem evd_and {a b : Bool} (h1 : EvD ta σ H (.bool a)) (h2 : a = true → EvD tb σ H (.bool b)) : EvD (tAndV ta tb) σ H (.bool (a && b)) := evd_of_bl (ev_andV (ev_bl h1) fun e => ev_bl (h2 e))
theorem evd_or {a b : Bool} (h1 : EvD ta σ H (.bool a)) (h2 : a = false → EvD tb σ H (.bool b)) : EvD (tOrV ta tb) σ H (.bool (a || b)) := evd_of_bl (ev_orV (ev_bl h1) fun e => ev_bl (h2 e))
theorem evr_if {b : Bool} (h : EvT t σ H b) (h1 : b = true → EvR ta σ H R) (h2 : b = false → EvR tb σ H R) : EvR (tIf t ta tb) σ H R := fun H1 e Q q => h H1 e _ fun H2 e2 => by
  cases b with
  | true =>
    show ta σ H2 Q
    exact h1 rfl H2 (e.trans e2) Q fun v H3 e3 => q v H3 (e2.trans e3)
  | false =>
    show tb σ H2 Q
    exact h2 rfl H2 (e.trans e2) Q fun v H3 e3 => q v H3 (e2.trans e3)

/-! ### calls -/
/-- a promise: of such values, in such a heap, a value of which R holds comes back, and what stood stands -/
def SpG (Pre : List V → Hp → Rel → Prop) : Sp := fun vs H Q _ => ∃ R, Pre vs H R ∧ ∀ v H', Ex H H' → R v H' → Q v H'
theorem evr_call {Pre : List V → Hp → Rel → Prop} {E : XK} (h : EvDs tA σ H ds) (hp : ∀ vs H1, Ex H H1 → TdAll H1 vs ds → Pre vs H1 R) : EvR (tCall (SpG Pre) [] E tA) σ H R := fun H1 e Q q =>
  h H1 e _ fun vs H2 e2 r => ⟨R, by rw [List.append_nil]; exact hp vs H2 (e.trans e2) r, fun v H3 e3 k => q v H3 (e2.trans e3) k⟩
/-- a promise over data alone -/
def SpD (F : List PyData → PyData → Prop) : Sp := SpG fun vs H R => ∃ ds d, TdAll H vs ds ∧ F ds d ∧ R = Dt d
theorem evd_call {F : List PyData → PyData → Prop} {E : XK} (h : EvDs tA σ H ds) (hf : F ds d) : EvD (tCall (SpD F) [] E tA) σ H d :=
  evr_call h fun vs H1 _ r => ⟨ds, d, r, hf, rfl⟩

/-! ### comprehensions over data -/
/-- a list of data -/
def Ld (ds : List PyData) : Rel := fun v H => ∃ p vs, v = .ref p ∧ H p = some (.lst vs) ∧ vs.length ≤ 100000 ∧ TdAll H vs ds
theorem Ld.ex {H H' : Hp} {v : V} (h : Ld ds v H) (e : Ex H H') : Ld ds v H' := by
  obtain ⟨p, vs, rfl, h1, h2, h3⟩ := h
  exact ⟨p, vs, rfl, e _ _ h1, h2, h3.ex e⟩
/-- what a comprehension holds behind i turns -/
def CwD (H : Hp) (out : Nat → List PyData) (D : Addr) (i : Nat) (H' : Hp) : Prop := H D = none ∧ Ex H H' ∧ ∃ acc, H' D = some (.lst acc) ∧ TdAll H' acc (out i)
theorem cwd_turn {out : Nat → List PyData} {D : Addr} {i : Nat} {σ2 : St} {b : Bool} {d : PyData} (p : CwD H out D i H') (hi : (out i).length < 100000) (ht : EvT t σ2 H b) (he : b = true → EvD te σ2 H d)
    (ho : out (i + 1) = if b = true then out i ++ [d] else out i) :
    t σ2 H' fun b H3 => if b = true then te σ2 H3 fun y H4 => ∃ acc, H4 D = some (.lst acc) ∧ acc.length < sizeLine ∧ CwD H out D (i + 1) (upd H4 D (.lst (acc ++ [y]))) else CwD H out D (i + 1) H3 := by
  obtain ⟨p1, p2, acc, p3, p4⟩ := p
  refine ht H' p2 _ fun H3 e3 => ?_
  cases b with
  | true =>
    show te σ2 H3 fun y H4 => ∃ acc, H4 D = some (.lst acc) ∧ acc.length < sizeLine ∧ CwD H out D (i + 1) (upd H4 D (.lst (acc ++ [y])))
    refine he rfl H3 (p2.trans e3) _ fun y H4 e4 r4 => ⟨acc, e4 D _ (e3 D _ p3), sz_lt (by rw [p4.length]; exact hi), p1, Ex.mut ((p2.trans e3).trans e4) p1, _, upd_same, ?_⟩
    rw [ho, if_pos rfl]
    have k : TK H4 (upd H4 D (.lst (acc ++ [y]))) := TK.lst (e4 D _ (e3 D _ p3))
    exact ((p4.ex (e3.trans e4)).keep k).append (.one (r4.keep k))
  | false =>
    show CwD H out D (i + 1) H3
    refine ⟨p1, p2.trans e3, acc, e3 D _ p3, ?_⟩
    rw [ho, if_neg (by decide)]
    exact p4.ex e3
/-- [e for x in t if c], t a tuple of data -/
theorem evl_lcT {j : Nat} {ws : List Nat} {f : Nat → PyData → Bool} {g : Nat → PyData → PyData} (h : EvD ta σ H (.tuple ds)) (hz : ds.length ≤ 40000) (hw : ∀ x, wipe ((wipe σ ws).set j (some x)) ws = wipe σ ws)
    (ht : ∀ (i : Nat) (x : V) (d : PyData) H1, Ex H H1 → ds[i]? = some d → Td H1 x d → EvT t ((wipe σ ws).set j (some x)) H1 (f i d))
    (he : ∀ (i : Nat) (x : V) (d : PyData) H1, Ex H H1 → ds[i]? = some d → Td H1 x d → f i d = true → EvD te ((wipe σ ws).set j (some x)) H1 (g i d)) {out : List PyData}
    (ho : out = (ds.zipIdx.filter fun p => f p.2 p.1).map fun p => g p.2 p.1) :
    ∀ H1, Ex H H1 → ∀ Q : VK, (∀ p vs H2, H1 p = none → Ex H1 H2 → H2 p = some (.lst vs) → vs.length ≤ 100000 → TdAll H2 vs out → Q (.ref p) H2) → tLc (iTup K ta) (gName j) t te ws σ H1 Q := fun H0 e0 Q q =>
  h H0 e0 _ fun v H1 e1 r1 => by
    obtain ⟨a, xs, rfl, hx, _, r⟩ := r1.tup_inv
    have hl := r.length
    refine ⟨a, rfl, ⟨xs, SqT.of hx⟩, fun D hD => ?_⟩
    let out' : Nat → List PyData := fun n => ((ds.zipIdx.take n).filter fun p => f p.2 p.1).map fun p => g p.2 p.1
    have hlen : ∀ n, (out' n).length ≤ ds.length := fun n => by
      show (List.map _ _).length ≤ _
      rw [List.length_map]
      refine Nat.le_trans (List.length_filter_le _ _) ?_
      rw [List.length_take, List.length_zipIdx]
      exact Nat.min_le_right _ _
    refine lc_tup (xs := xs) (CwD H1 out' D) ⟨hD, Ex.new hD, [], upd_same, TdAll.nil⟩ (fun i H' _ p => SqT.of (p.2.1 _ _ hx)) (fun i x H' hi p => ⟨hw x, ?_⟩) fun H' p => ?_
    · obtain ⟨d, hd, hxd⟩ := r.get' hi
      refine cwd_turn (b := f i d) (d := g i d) p (Nat.lt_of_le_of_lt (hlen i) (by omega)) (ht i x d H1 (e0.trans e1) hd hxd) (fun hf => he i x d H1 (e0.trans e1) hd hxd hf) ?_
      show ((ds.zipIdx.take (i + 1)).filter _).map _ = _
      have hz' : ds.zipIdx[i]? = some (d, i) := by rw [List.getElem?_zipIdx, hd]; simp
      rw [List.take_add_one, hz', Option.toList_some, List.filter_append, List.map_append, List.filter_cons, List.filter_nil]
      split <;> simp_all [out']
    · obtain ⟨p1, p2, acc, p3, p4⟩ := p
      have e : out' xs.length = out := by
        show ((ds.zipIdx.take xs.length).filter _).map _ = _
        rw [List.take_of_length_le (by rw [List.length_zipIdx]; omega), ho]
      rw [e] at p4
      refine q D acc H' (fresh_back e1 p1) (e1.trans p2) p3 ?_ p4
      rw [p4.length, ← e]
      exact Nat.le_trans (hlen _) (by omega)
end
end RFW
end

section
set_option Elab.async false
set_option linter.all false
set_option maxRecDepth 100000
set_option maxHeartbeats 4000000
/-! enumerate of a tuple. -/
namespace PySem
open Sem (wp)
open AutoSeq1 (wpAny_loadPart')
theorem rf_enumerate_newT (l : Addr) (items : Array Value) (n : Nat) (dct : Option Addr) (sl : Array (Option Value)) :
    Meets (Builtin.«enumerate.__new__» ⟨[.type "enumerate", .ref l], []⟩) (fun _ R s => s.heap.get? l = some { cls := .type "tuple", dict := dct, data := .seq items n, slots := sl } ∧
      R (.ok (.ret (.ref (s.heap.push { cls := .type "tuple_iterator", data := .fields #[.ref l, .int 0 0] }).objs.size)))
        { s with heap := (s.heap.push { cls := .type "tuple_iterator", data := .fields #[.ref l, .int 0 0] }).push { cls := .type "enumerate", data := .fields #[.none, .bool false, .ref s.heap.objs.size, rawInt 0, .none, .none] } }) :=
  .of_wp fun prog w A R s h => by
    obtain ⟨hp, g, d, tk, os⟩ := s; obtain ⟨hl, h⟩ := h
    have hsub := sub_enumerate
    have hL : Heap.IsTuple (Shared.heap ⟨hp, g, d, tk, os⟩) l items := ⟨_, hl, rfl, n, rfl⟩
    wp_walk using wpAny_loadPart' hl
    refine wpAny_stack_any fun st => wpAny_pure ?_
    split
    · rename_i c _ _ _ _ _
      cases (c == Value.type "enumerate")
      · wp_walk using wpAny_loadPart' hl, wpAny_pyIter_tuple hL
        exact ⟨_, rfl, h⟩
      · wp_walk using wpAny_loadPart' hl, wpAny_pyIter_tuple hL
        exact ⟨_, rfl, h⟩
    · wp_walk using wpAny_loadPart' hl, wpAny_pyIter_tuple hL
      exact ⟨_, rfl, h⟩
section
variable {prog : Program} {w : World} {A : Around} {E : Value → Shared → Prop} {s : Shared}
theorem rf_call_enumerate_tuple {l : Addr} {items : Array Value} {Q : Value → Shared → Prop} (hL : s.heap.IsTuple l items)
    (h : ∀ h', IsEnum h' (s.heap.objs.size + 1) s.heap.objs.size 0 .none → h'.IsTupleIter s.heap.objs.size l 0 → h'.objs.size = s.heap.objs.size + 2 →
      (∀ b o, s.heap.get? b = some o → h'.get? b = some o) → Q (.ref (s.heap.objs.size + 1)) { s with heap := h' }) :
    wpAny (model prog w) A (call (.type "enumerate") [.ref l]) Q E s := by
  obtain ⟨⟨c, dct, dt, sl⟩, hl, hc, n, hd⟩ := hL
  replace hc : c = .type "tuple" := hc
  replace hd : dt = .seq items n := hd
  subst hc hd
  refine callType_new F.called_enumerate (by decide) (F.typeCall_enumerate_1 _) (F.newCall_enumerate_1 _) (fun obj => F.args_object_init_2 obj _) F.entry_enumerate_new
    (rf_enumerate_newT l items n dct sl) ⟨hl, ?_⟩
  have hz : (s.heap.push { cls := .type "tuple_iterator", data := .fields #[.ref l, .int 0 0] }).objs.size = s.heap.objs.size + 1 := Heap.size_push ..
  show _ ∧ _
  rw [hz]
  have he : IsEnum ((s.heap.push { cls := .type "tuple_iterator", data := .fields #[.ref l, .int 0 0] }).push
      { cls := .type "enumerate", data := .fields #[.none, .bool false, .ref s.heap.objs.size, rawInt 0, .none, .none] }) (s.heap.objs.size + 1) s.heap.objs.size 0 .none := by
    have := Heap.get?_push_size (s.heap.push { cls := .type "tuple_iterator", data := .fields #[.ref l, .int 0 0] })
      (o := { cls := .type "enumerate", data := .fields #[.none, .bool false, .ref s.heap.objs.size, rawInt 0, .none, .none] }) rfl
    rw [hz] at this; exact this
  refine ⟨⟨_, he, rfl⟩, h _ he ⟨_, Heap.get?_push_of_some _ (Heap.get?_push_size _ rfl), rfl, rfl⟩ (by rw [Heap.size_push, hz]) fun b o x => Heap.get?_push_of_some _ (Heap.get?_push_of_some _ x)⟩
end
end PySem
namespace RFW
open PySem L2 Evl PySem.Spec PyProof.Rows
/-- the tuple at a, each item in a new pair -/
def IteT (K : PySem.W.Frag) (a : Addr) : It :=
  ⟨fun i H => ∃ (xs : List V) (x : V), SqT K H a xs ∧ xs[i]? = some x, fun i H v H' => ∃ T x, v = .ref T ∧ H T = none ∧ H' = upd H T (.tup [.int (i : Nat), x]) ∧ ∀ xs, SqT K H a xs → xs[i]? = some x, fun i H => ∃ xs : List V, SqT K H a xs ∧ xs.length = i⟩
theorem turn_enumT {P : Program} {w : World} {K : PySem.W.Frag} {elts : List Expr} {kk : Nat} {tpos : Pos} (a e it : Addr) :
    Turn P w K (.Tuple elts kk tpos) (IteT K a) [e, it] e (fun i h => (∃ old, IsEnum h e it ((i : Nat) : Int) old) ∧ h.IsTupleIter it a i ∧ e ≠ it ∧ e ≠ a ∧ a ≠ it) where
  mem := by simp
  obj := fun i h st b hb => by
    obtain ⟨⟨old, he⟩, ⟨o, ho, hc, hd⟩, _⟩ := st
    have e' : b = e ∨ b = it := by simpa using hb
    rcases e' with z | z
    · rw [z]; exact ⟨_, he, fun v q => nomatch q⟩
    · rw [z]; exact ⟨o, ho, fun v q => by rw [hd] at q; cases q⟩
  keep := fun i h h' st k => let ⟨⟨old, he⟩, hi, hne⟩ := st; ⟨⟨old, k e (by simp) _ he⟩, hi.at fun o q => k it (by simp) o q, hne⟩
  item := by
    intro X hP hw hK hc i pins s σ H E I hf st hg
    subst hP hw hK
    obtain ⟨⟨old, he⟩, hit, hne, hea, hai⟩ := st
    obtain ⟨xs, x, hq, hx⟩ := hg
    obtain ⟨its, rv, p, hz⟩ := I.tuple hq
    have hlen : i < its.toArray.size := by
      rw [List.size_toArray, ← rv.length]; exact (List.getElem?_eq_some_iff.mp hx).1
    have hel : e < s.heap.objs.size := Heap.lt_size he
    have hil : it < s.heap.objs.size := by obtain ⟨_, q, _⟩ := hit; exact Heap.lt_size q
    refine wpAny_pyNext_enum_itemD (Draws.tuple (prog := X.prog) (w := X.w) (A := X.A.in1) (I.ok.hd hc) it a hai its.toArray) he ⟨hit, p⟩ hlen hne (by simp [hne, hea]) fun u h' tk hu ho hst hT hsz hk => ?_
    obtain ⟨v, hv, ru⟩ : ∃ v, its[i]? = some v ∧ RelV x v := rv.get hx
    have huv : u = v := by
      rw [List.getElem?_toArray, hv] at hu
      exact (Option.some.inj hu).symm
    subst huv
    refine ⟨_, rfl, wpAny_letOwnedTupleGo_enum (s := { s with heap := h', toks := tk + 1 }) ho fun h'' he' sb => ?_⟩
    have hT2 : h''.get? s.heap.objs.size = some { cls := .type "tuple", data := .seq #[.int i tk, u] } := (sb.2 _ (Nat.ne_of_gt hel)).trans hT
    have new : ObjOk X.prog X.w (upd H s.heap.objs.size (.tup [.int (i : Nat), x])) h'' s.heap.objs.size (.tup [.int (i : Nat), x]) :=
      ⟨by show 2 ≤ sizeLine; decide, [.int i tk, u], .cons ⟨_, rfl⟩ (.cons ru .nil), ⟨_, hT2, rfl, _, rfl⟩⟩
    have I1 : Inv X pins σ (upd H s.heap.objs.size (.tup [.int (i : Nat), x])) { s with heap := h'', toks := tk + 1 } :=
      I.turnedNew (ch := [e, it]) (fun b ob hb q => (sb.2 b (fun z => hb (by simp [z]))).trans (hk b ob (fun z => hb (by simp [z])) (fun z => hb (by simp [z])) q)) hf (Nat.le_refl _) new
    refine ⟨.ref s.heap.objs.size, _, I1, rfl, ⟨_, x, rfl, I.hok.fresh (Nat.le_refl _), rfl, fun ys hy => by rw [I.tuple_inj hy hq]; exact hx⟩, ⟨⟨u, ?_⟩, hst.1.at fun o q => (sb.2 it (Ne.symm hne)).trans q, hne, hea, hai⟩, fun b hb => ?_⟩
    · have e1 : ((i + 1 : Nat) : Int) = (i : Int) + 1 := by omega
      rw [e1]; exact he'
    · have hb' : b < s.heap.objs.size := by
        have e' : b = e ∨ b = it := by simpa using hb
        rcases e' with z | z
        · rw [z]; exact hel
        · rw [z]; exact hil
      rw [upd_ne (Nat.ne_of_lt hb')]
      exact (hf b hb).1
  done := by
    intro X hP hw hK hc i pins s σ H E I hf st hg
    subst hP hw hK
    obtain ⟨⟨old, he⟩, hit, hne, hea, hai⟩ := st
    obtain ⟨xs, hq, hx⟩ := hg
    obtain ⟨its, rv, p, hz⟩ := I.tuple hq
    obtain ⟨f0, f1, f2, f3, f4, f5⟩ := hf it (by simp)
    have hl := rv.length
    refine wpAny_pyNext_enum_endD (i := i) (Draws.tuple (prog := X.prog) (w := X.w) (A := X.A.in1) (I.ok.hd hc) it a hai its.toArray) he ?_ fun h' eb => ⟨rfl, I.turned (t' := s.toks) (fun b o hb q => eb b o hb q) f0 f1 f3 f4 f5⟩
    have e1 : its.toArray.size = i := by rw [List.size_toArray]; omega
    rw [e1]
    exact ⟨hit, p⟩
  self := fun A i s Q E st h => let ⟨⟨_, he⟩, _⟩ := st; wpAny_pyIter_enum he h
def iEnumT (K : PySem.W.Frag) (ta : TA) : TI := fun σ H R => ta σ H fun vs H1 => ∃ a xs, vs = [.ref a] ∧ SqT K H1 a xs ∧ R (IteT K a) H1
theorem pi_enumT {X : Cx} {e : Expr} {ta : TA} {p pos tpos : Pos} {elts : List Expr} {kk : Nat} (hg : Gl X "enumerate") (hm : X.mg "enumerate" = none) (ha : PA X [e] ta) (hs : starEach [e] X.env = [(false, eval e X.env)] := by rfl) :
    PI X (.Tuple elts kk tpos) (.Call (.Name "enumerate" p) [e] [] pos) (iEnumT X.K ta) := by
  refine ⟨fun pins s σ H R I h => ?_⟩
  refine Call_ (ld_blt I hg hm boot_enumerate (PyProof.Rows.callWith_type1 (thn (ha.run pos pins s σ H _ I h) fun us s1 ⟨vs, H1, I1, r1, q1⟩ => ?_) hs rfl))
  obtain ⟨a, xs, ex, hq, q⟩ := q1
  subst ex
  cases r1 with
  | cons r rr =>
    cases rr
    cases r
    obtain ⟨its, rv, p', hz⟩ := I1.tuple hq
    have hal : a < s1.heap.objs.size := by obtain ⟨_, q', _⟩ := p'; exact Heap.lt_size q'
    refine rf_call_enumerate_tuple (show s1.heap.IsTuple a its.toArray from p') fun h' he hit hsz hk => wpAny_pyIter_enum he ?_
    have I2 : Inv X pins σ H1 { s1 with heap := h' } := I1.kept (t' := s1.toks) hk
    refine ⟨s1.heap.objs.size + 1, [s1.heap.objs.size + 1, s1.heap.objs.size], _, _, H1, rfl, I2, turn_enumT a (s1.heap.objs.size + 1) s1.heap.objs.size, ⟨⟨.none, he⟩, hit, Nat.succ_ne_self _, Nat.ne_of_gt (Nat.lt_succ_of_lt hal), Nat.ne_of_lt hal⟩, fun b hb => ?_, q⟩
    have e' : b = s1.heap.objs.size + 1 ∨ b = s1.heap.objs.size := by simpa using hb
    have hle : s1.heap.objs.size ≤ b := by
      rcases e' with z | z
      · rw [z]; exact Nat.le_add_right _ _
      · rw [z]; exact Nat.le_refl _
    exact I1.fpOk hle (I1.hok.fresh hle)
/-- for i, x in enumerate(t): the pair T is new -/
theorem for_enumT {K : PySem.W.Frag} {a : Addr} {xs : List V} {g : TG} {tb : TS} {D : Ends} {σ : L2.St} {H : Hp} (Pv : Nat → L2.St → Hp → Prop) (h0 : Pv 0 σ H) (hl : ∀ i σ H, i ≤ xs.length → Pv i σ H → SqT K H a xs)
    (hs : ∀ i x T σ H, xs[i]? = some x → Pv i σ H → H T = none → g (.ref T) σ (upd H T (.tup [.int (i : Nat), x])) fun σ2 H2 => tb { D with nx := Pv (i + 1), ct := Pv (i + 1), bk := D.nx } σ2 H2) (hd : ∀ σ H, Pv xs.length σ H → D.nx σ H) :
    ∃ W : Nat → Nat → L2.St → Hp → Prop, (∃ m, W 0 m σ H) ∧ ∀ i m σ H, W i m σ H →
      ((IteT K a).stop i H ∧ D.nx σ H) ∨ ((IteT K a).go i H ∧ ∃ N : L2.St → Hp → Prop, (∀ σ' H', N σ' H' → ∃ m', m' < m ∧ W (i + 1) m' σ' H') ∧ ∀ x H', (IteT K a).yld i H x H' → g x σ H' fun σ2 H2 => tb { D with nx := N, ct := N, bk := D.nx } σ2 H2) := by
  refine ⟨fun i m σ H => m = xs.length - i ∧ i ≤ xs.length ∧ Pv i σ H, ⟨xs.length, by simp, Nat.zero_le _, h0⟩, ?_⟩
  rintro i m σ H ⟨rfl, hi, p⟩
  have q := hl i σ H hi p
  by_cases hlt : i < xs.length
  · refine .inr ⟨⟨xs, xs[i], q, by simp [hlt]⟩, Pv (i + 1), fun σ' H' p' => ⟨xs.length - (i + 1), by omega, rfl, hlt, p'⟩, fun x H' y => ?_⟩
    obtain ⟨T, x', rfl, hT, rfl, y⟩ := y
    exact hs i x' T σ H (y xs q) p hT
  · have e : i = xs.length := by omega
    subst e
    exact .inl ⟨⟨xs, q, rfl⟩, hd σ H p⟩
end RFW
end

section
set_option Elab.async false
set_option linter.all false
set_option maxRecDepth 100000
set_option maxHeartbeats 4000000
/-! min and max of a list, default= given: of numbers, and of data that are alike. -/
namespace PySem
open Sem (wp)
/-- comparisons that hold while G holds of the heap -/
def CmpG (prog : Program) (w : World) (A : Around) (op : CmpOp) (G : Heap → Prop) (P : Nat → Value → Prop) (bt : Nat → Nat → Bool) : Prop :=
  ∀ i j vi vj (s : Shared) (Q : Value → Shared → Prop) (E : Value → Shared → Prop), G s.heap → P i vi → P j vj → Q (.bool (bt i j)) s → wpAny (model prog w) A (richCompare op vi vj) Q E s

theorem rf_min_dflt (a v : Value) : argsOk "min" ⟨[a], [(Str.ofString "default", v)]⟩ := by unfold argsOk; kernel_rfl
section
variable {prog : Program} {w : World} {A : Around} {R : Result → Shared → Prop} {I : Addr} {fp wr : List Addr} {n : Nat} {P : Nat → Value → Prop} {St : Nat → Heap → Prop} {G : Heap → Prop} {d : Value}
theorem rf_min_loop (W : Walks prog w A.in1 I fp wr n P St) (bt : Nat → Nat → Bool) (hcmp : CmpG prog w A.in1 .Lt G P bt) (S : Addr) (hSf : S ∉ fp)
    (hG : ∀ h h', G h → (∀ b o, b ∉ wr → b ≠ S → h.get? b = some o → h'.get? b = some o) → G h') :
    ∀ (k j : Nat) (s : Shared) (vb : Value) (c : Nat), n - (j + 1) = k → j + 1 ≤ n → St (j + 1) s.heap → G s.heap → P (argBest bt j) vb →
    s.heap.get? S = some { cls := .type "list", dict := none, data := .seq #[vb, vb] c, slots := #[] } →
    (∀ v h' tk, P (argBest bt (n - 1)) v → (∀ b o, b ∉ wr → b ≠ S → s.heap.get? b = some o → h'.get? b = some o) → R (.ok (.ret v)) { s with heap := h', toks := tk }) →
    codeAny (model prog w) A (.builtin "min.loop" ⟨[.ref I, .none, .ref S], [(Str.ofString "default", d)]⟩) R s := by
  have hSw : S ∉ wr := fun h => hSf (W.sub _ h)
  have hname : (toString "min" ++ toString ".loop" : String) = "min.loop" := by decide
  intro k
  induction k with
  | zero =>
    intro j s vb c hk hj hst hg hPb hS hR
    have hin : j + 1 = n := by omega
    refine codeAny_builtin F.entry_min_loop ?_
    rw [Around.under_plainId F.plain_min_loop _]
    show wpAny _ A.in1 (seqItems? (.ref S) >>= _) _ _ s
    refine wpAny_bind (wpAny_seqItems hS rfl ?_)
    show wpAny _ A.in1 (tryCatch (pyNext (.ref I)) _ >>= _) _ _ s
    refine wpAny_bind (wpAny_tryCatch (W.done s _ _ (hin ▸ hst) fun h' tk hk' => ?_))
    have hS' := hk' S _ hSw hS
    show wpAny _ A.in1 (updateSeq S (fun _ => #[]) >>= _) _ _ _
    refine wpAny_bind ?_
    refine wpAny_updateSeq hS' rfl (wpAny_bind (wpAny_letGo (wpAny_pure ?_)))
    refine hR vb _ tk (by rw [← hin]; exact hPb) fun b o hbw hbS e => (Heap.get?_update_other _ _ (Ne.symm hbS)).trans (hk' b o hbw e)
  | succ k ih =>
    intro j s vb c hk hj hst hg hPb hS hR
    have hlt : j + 1 < n := by omega
    refine codeAny_builtin F.entry_min_loop ?_
    rw [Around.under_plainId F.plain_min_loop _]
    show wpAny _ A.in1 (seqItems? (.ref S) >>= _) _ _ s
    refine wpAny_bind (wpAny_seqItems hS rfl ?_)
    show wpAny _ A.in1 (tryCatch (pyNext (.ref I)) _ >>= _) _ _ s
    refine wpAny_bind (wpAny_tryCatch (W.item (j + 1) s _ _ hlt hst fun v h' tk hP hst' hk' => ?_))
    have hS' := hk' S _ hSw hS
    have hg' : G h' := hG _ _ hg fun b o hb _ e => hk' b o hb e
    show wpAny _ A.in1 (tryCatch (holding [v, v] (richCompare .Lt v vb >>= _)) _ >>= _) _ _ _
    refine wpAny_bind (wpAny_tryCatch (wpAny_holding (wpAny_bind (hcmp (j + 1) (argBest bt j) v vb _ _ _ hg' hP hPb ?_))))
    refine wpAny_bind (wpAny_holding (wpAny_truthy_bool ?_))
    refine wpAny_bind (wpAny_letGo (wpAny_pure ?_))
    cases hb : bt (j + 1) (argBest bt j) with
    | true =>
      simp only [if_true]
      refine wpAny_bind ?_
      refine wpAny_updateSeq hS' rfl (wpAny_bind (wpAny_letGo ?_))
      rw [hname]
      refine wpAny_pure ⟨plainId_quiet F.plain_min_loop _, ih (j + 1) _ v _ (by omega) hlt (W.frame _ _ _ hst' fun b hbf o e => ?_) (hG _ _ hg' fun b o _ hbS e => (Heap.get?_update_other _ _ (Ne.symm hbS)).trans e) (by simp only [argBest, hb, if_true]; exact hP) (Heap.get?_update_self _ hS' rfl)
        fun v' h'' tk'' hP' hk'' => ?_⟩
      · exact (Heap.get?_update_other _ _ (fun h : S = b => hSf (by rw [h]; exact hbf))).trans e
      · exact hR v' h'' tk'' hP' fun b o hbw hbS e => hk'' b o hbw hbS ((Heap.get?_update_other _ _ (Ne.symm hbS)).trans (hk' b o hbw e))
    | false =>
      simp only [Bool.false_eq_true, if_false]
      refine wpAny_bind (wpAny_letGo ?_)
      rw [hname]
      refine wpAny_pure ⟨plainId_quiet F.plain_min_loop _, ih (j + 1) _ vb c (by omega) hlt hst' hg' (by simp only [argBest, hb, Bool.false_eq_true, if_false]; exact hPb) hS' fun v' h'' tk'' hP' hk'' => ?_⟩
      exact hR v' h'' tk'' hP' fun b o hbw hbS e => hk'' b o hbw hbS (hk' b o hbw e)
theorem rf_min_first (W : Walks prog w A.in1 I fp wr n P St) (bt : Nat → Nat → Bool) (hcmp : CmpG prog w A.in1 .Lt G P bt) (S : Addr) (hSf : S ∉ fp)
    (hG : ∀ h h', G h → (∀ b o, b ∉ wr → b ≠ S → h.get? b = some o → h'.get? b = some o) → G h') {s : Shared} {c : Nat} (hst : St 0 s.heap) (hg : G s.heap)
    (hS : s.heap.get? S = some { cls := .type "list", dict := none, data := .seq #[] c, slots := #[] })
    (hR : ∀ v h' tk, (n = 0 → v = d) → (0 < n → P (argBest bt (n - 1)) v) → (∀ b o, b ∉ wr → b ≠ S → s.heap.get? b = some o → h'.get? b = some o) → R (.ok (.ret v)) { s with heap := h', toks := tk }) :
    codeAny (model prog w) A (.builtin "min.loop" ⟨[.ref I, .none, .ref S], [(Str.ofString "default", d)]⟩) R s := by
  have hSw : S ∉ wr := fun h => hSf (W.sub _ h)
  have hname : (toString "min" ++ toString ".loop" : String) = "min.loop" := by decide
  refine codeAny_builtin F.entry_min_loop ?_
  rw [Around.under_plainId F.plain_min_loop _]
  show wpAny _ A.in1 (seqItems? (.ref S) >>= _) _ _ s
  refine wpAny_bind (wpAny_seqItems hS rfl ?_)
  show wpAny _ A.in1 (tryCatch (pyNext (.ref I)) _ >>= _) _ _ s
  by_cases hn : 0 < n
  · refine wpAny_bind (wpAny_tryCatch (W.item 0 s _ _ hn hst fun v h' tk hP hst' hk' => ?_))
    have hS' := hk' S _ hSw hS
    have hg' : G h' := hG _ _ hg fun b o hb _ e => hk' b o hb e
    show wpAny _ A.in1 (updateSeq S (fun _ => #[v, v]) >>= _) _ _ _
    refine wpAny_bind ?_
    refine wpAny_updateSeq hS' rfl ?_
    rw [hname]
    refine wpAny_pure ⟨plainId_quiet F.plain_min_loop _, rf_min_loop W bt hcmp S hSf hG _ 0 _ v _ rfl hn (W.frame _ _ _ hst' fun b hbf o e => ?_) (hG _ _ hg' fun b o _ hbS e => (Heap.get?_update_other _ _ (Ne.symm hbS)).trans e) hP (Heap.get?_update_self _ hS' rfl) fun v' h'' tk'' hP' hk'' => ?_⟩
    · exact (Heap.get?_update_other _ _ (fun h : S = b => hSf (by rw [h]; exact hbf))).trans e
    · exact hR v' h'' tk'' (fun z => by omega) (fun _ => hP') fun b o hbw hbS e => hk'' b o hbw hbS ((Heap.get?_update_other _ _ (Ne.symm hbS)).trans (hk' b o hbw e))
  · have h0 : n = 0 := by omega
    refine wpAny_bind (wpAny_tryCatch (W.done s _ _ (h0 ▸ hst) fun h' tk hk' => ?_))
    show wpAny _ A.in1 (rule _ >>= _) _ _ _
    refine wpAny_bind (wpAny_rule ?_)
    exact wpAny_pure (hR d h' tk (fun _ => rfl) (fun z => absurd z hn) fun b o hb _ e => hk' b o hb e)
end
section
variable {prog : Program} {w : World} {A : Around} {E : Value → Shared → Prop} {s : Shared}
theorem rf_min_list {l : Addr} {items : Array Value} {d : Value} {Q : Value → Shared → Prop} (hh : A.handled = none) (hl : s.heap.IsList l items) (bt : Nat → Nat → Bool)
    (hcmp : CmpG prog w A.in1 .Lt (fun h => ∀ b o, s.heap.get? b = some o → h.get? b = some o) (fun i v => items[i]? = some v) bt)
    (h : ∀ v h' tk, (items.size = 0 → v = d) → (0 < items.size → items[argBest bt (items.size - 1)]? = some v) → (∀ b o, s.heap.get? b = some o → h'.get? b = some o) → Q v { s with heap := h', toks := tk }) :
    wpAny (model prog w) A (call (.builtin "min") [.ref l] [(Str.ofString "default", d)]) Q E s := by
  have hname : (toString "min" ++ toString ".loop" : String) = "min.loop" := by decide
  have hll : l < s.heap.objs.size := by obtain ⟨o, ho, _⟩ := id hl; exact Heap.lt_size ho
  have hlI : l ≠ s.heap.objs.size := Nat.ne_of_lt hll
  refine PyProof.Rows.kmk_tree F.kind_min F.plain_min F.entry_min (rf_min_dflt _ _) ?_
  show wpAny _ A.in1 (Builtin.Builtins.bindParams "min" ["key", "default"] 0 ⟨[], [(Str.ofString "default", d)]⟩ >>= _) _ _ s
  refine wpAny_bind (wpAny_of_eq (show Builtin.Builtins.bindParams "min" ["key", "default"] 0 ⟨[], [(Str.ofString "default", d)]⟩ = pure [none, some d] from rfl) ?_)
  refine wpAny_bind (wpAny_pure ?_)
  refine wpAny_bind (wpAny_pyIter_list hl ?_)
  refine wpAny_bind (wpAny_newList ?_ (Nat.zero_le _))
  rw [hname]
  have W := Walks.list (prog := prog) (w := w) (A := A.in1) hh s.heap.objs.size l hlI items
  have hS : (s.heap.push { cls := .type "list_iterator", data := .fields #[.ref l, .int 0 0] }).objs.size = s.heap.objs.size + 1 := Heap.size_push ..
  refine wpAny_pure ⟨plainId_quiet F.plain_min_loop _, rf_min_first (d := d) W bt hcmp (s.heap.push { cls := .type "list_iterator", data := .fields #[.ref l, .int 0 0] }).objs.size ?_ ?_ ⟨⟨_, Heap.get?_push_of_some _ (Heap.get?_push_size _ rfl), rfl, rfl⟩, hl.at fun o e => Heap.get?_push_of_some _ (Heap.get?_push_of_some _ e)⟩
    (fun b o e => Heap.get?_push_of_some _ (Heap.get?_push_of_some _ e)) (Heap.get?_push_size _ rfl) fun v h' tk h0 h1 hk => ?_⟩
  · rw [hS]
    intro hm
    rcases List.mem_cons.mp hm with z | z
    · exact absurd z (Nat.succ_ne_self _)
    · exact absurd hll (by rw [← List.mem_singleton.mp z]; exact Nat.not_lt.mpr (Nat.le_succ _))
  · intro h1 h2 hg hk b o e
    have hb : b < s.heap.objs.size := Heap.lt_size e
    exact hk b o (fun z => absurd hb (by rw [List.mem_singleton.mp z]; exact Nat.lt_irrefl _)) (by rw [hS]; exact Nat.ne_of_lt (Nat.lt_succ_of_lt hb)) (hg b o e)
  · refine h v h' tk h0 h1 fun b o e => ?_
    have hb : b < s.heap.objs.size := Heap.lt_size e
    exact hk b o (fun z => absurd hb (by rw [List.mem_singleton.mp z]; exact Nat.lt_irrefl _)) (by rw [hS]; exact Nat.ne_of_lt (Nat.lt_succ_of_lt hb)) (Heap.get?_push_of_some _ (Heap.get?_push_of_some _ e))
end

theorem rf_max_dflt (a v : Value) : argsOk "max" ⟨[a], [(Str.ofString "default", v)]⟩ := by unfold argsOk; kernel_rfl
section
variable {prog : Program} {w : World} {A : Around} {R : Result → Shared → Prop} {I : Addr} {fp wr : List Addr} {n : Nat} {P : Nat → Value → Prop} {St : Nat → Heap → Prop} {G : Heap → Prop} {d : Value}
theorem rf_max_loop (W : Walks prog w A.in1 I fp wr n P St) (bt : Nat → Nat → Bool) (hcmp : CmpG prog w A.in1 .Gt G P bt) (S : Addr) (hSf : S ∉ fp)
    (hG : ∀ h h', G h → (∀ b o, b ∉ wr → b ≠ S → h.get? b = some o → h'.get? b = some o) → G h') :
    ∀ (k j : Nat) (s : Shared) (vb : Value) (c : Nat), n - (j + 1) = k → j + 1 ≤ n → St (j + 1) s.heap → G s.heap → P (argBest bt j) vb →
    s.heap.get? S = some { cls := .type "list", dict := none, data := .seq #[vb, vb] c, slots := #[] } →
    (∀ v h' tk, P (argBest bt (n - 1)) v → (∀ b o, b ∉ wr → b ≠ S → s.heap.get? b = some o → h'.get? b = some o) → R (.ok (.ret v)) { s with heap := h', toks := tk }) →
    codeAny (model prog w) A (.builtin "max.loop" ⟨[.ref I, .none, .ref S], [(Str.ofString "default", d)]⟩) R s := by
  have hSw : S ∉ wr := fun h => hSf (W.sub _ h)
  have hname : (toString "max" ++ toString ".loop" : String) = "max.loop" := by decide
  intro k
  induction k with
  | zero =>
    intro j s vb c hk hj hst hg hPb hS hR
    have hin : j + 1 = n := by omega
    refine codeAny_builtin F.entry_max_loop ?_
    rw [Around.under_plainId F.plain_max_loop _]
    show wpAny _ A.in1 (seqItems? (.ref S) >>= _) _ _ s
    refine wpAny_bind (wpAny_seqItems hS rfl ?_)
    show wpAny _ A.in1 (tryCatch (pyNext (.ref I)) _ >>= _) _ _ s
    refine wpAny_bind (wpAny_tryCatch (W.done s _ _ (hin ▸ hst) fun h' tk hk' => ?_))
    have hS' := hk' S _ hSw hS
    show wpAny _ A.in1 (updateSeq S (fun _ => #[]) >>= _) _ _ _
    refine wpAny_bind ?_
    refine wpAny_updateSeq hS' rfl (wpAny_bind (wpAny_letGo (wpAny_pure ?_)))
    refine hR vb _ tk (by rw [← hin]; exact hPb) fun b o hbw hbS e => (Heap.get?_update_other _ _ (Ne.symm hbS)).trans (hk' b o hbw e)
  | succ k ih =>
    intro j s vb c hk hj hst hg hPb hS hR
    have hlt : j + 1 < n := by omega
    refine codeAny_builtin F.entry_max_loop ?_
    rw [Around.under_plainId F.plain_max_loop _]
    show wpAny _ A.in1 (seqItems? (.ref S) >>= _) _ _ s
    refine wpAny_bind (wpAny_seqItems hS rfl ?_)
    show wpAny _ A.in1 (tryCatch (pyNext (.ref I)) _ >>= _) _ _ s
    refine wpAny_bind (wpAny_tryCatch (W.item (j + 1) s _ _ hlt hst fun v h' tk hP hst' hk' => ?_))
    have hS' := hk' S _ hSw hS
    have hg' : G h' := hG _ _ hg fun b o hb _ e => hk' b o hb e
    show wpAny _ A.in1 (tryCatch (holding [v, v] (richCompare .Gt v vb >>= _)) _ >>= _) _ _ _
    refine wpAny_bind (wpAny_tryCatch (wpAny_holding (wpAny_bind (hcmp (j + 1) (argBest bt j) v vb _ _ _ hg' hP hPb ?_))))
    refine wpAny_bind (wpAny_holding (wpAny_truthy_bool ?_))
    refine wpAny_bind (wpAny_letGo (wpAny_pure ?_))
    cases hb : bt (j + 1) (argBest bt j) with
    | true =>
      simp only [if_true]
      refine wpAny_bind ?_
      refine wpAny_updateSeq hS' rfl (wpAny_bind (wpAny_letGo ?_))
      rw [hname]
      refine wpAny_pure ⟨plainId_quiet F.plain_max_loop _, ih (j + 1) _ v _ (by omega) hlt (W.frame _ _ _ hst' fun b hbf o e => ?_) (hG _ _ hg' fun b o _ hbS e => (Heap.get?_update_other _ _ (Ne.symm hbS)).trans e) (by simp only [argBest, hb, if_true]; exact hP) (Heap.get?_update_self _ hS' rfl)
        fun v' h'' tk'' hP' hk'' => ?_⟩
      · exact (Heap.get?_update_other _ _ (fun h : S = b => hSf (by rw [h]; exact hbf))).trans e
      · exact hR v' h'' tk'' hP' fun b o hbw hbS e => hk'' b o hbw hbS ((Heap.get?_update_other _ _ (Ne.symm hbS)).trans (hk' b o hbw e))
    | false =>
      simp only [Bool.false_eq_true, if_false]
      refine wpAny_bind (wpAny_letGo ?_)
      rw [hname]
      refine wpAny_pure ⟨plainId_quiet F.plain_max_loop _, ih (j + 1) _ vb c (by omega) hlt hst' hg' (by simp only [argBest, hb, Bool.false_eq_true, if_false]; exact hPb) hS' fun v' h'' tk'' hP' hk'' => ?_⟩
      exact hR v' h'' tk'' hP' fun b o hbw hbS e => hk'' b o hbw hbS (hk' b o hbw e)
theorem rf_max_first (W : Walks prog w A.in1 I fp wr n P St) (bt : Nat → Nat → Bool) (hcmp : CmpG prog w A.in1 .Gt G P bt) (S : Addr) (hSf : S ∉ fp)
    (hG : ∀ h h', G h → (∀ b o, b ∉ wr → b ≠ S → h.get? b = some o → h'.get? b = some o) → G h') {s : Shared} {c : Nat} (hst : St 0 s.heap) (hg : G s.heap)
    (hS : s.heap.get? S = some { cls := .type "list", dict := none, data := .seq #[] c, slots := #[] })
    (hR : ∀ v h' tk, (n = 0 → v = d) → (0 < n → P (argBest bt (n - 1)) v) → (∀ b o, b ∉ wr → b ≠ S → s.heap.get? b = some o → h'.get? b = some o) → R (.ok (.ret v)) { s with heap := h', toks := tk }) :
    codeAny (model prog w) A (.builtin "max.loop" ⟨[.ref I, .none, .ref S], [(Str.ofString "default", d)]⟩) R s := by
  have hSw : S ∉ wr := fun h => hSf (W.sub _ h)
  have hname : (toString "max" ++ toString ".loop" : String) = "max.loop" := by decide
  refine codeAny_builtin F.entry_max_loop ?_
  rw [Around.under_plainId F.plain_max_loop _]
  show wpAny _ A.in1 (seqItems? (.ref S) >>= _) _ _ s
  refine wpAny_bind (wpAny_seqItems hS rfl ?_)
  show wpAny _ A.in1 (tryCatch (pyNext (.ref I)) _ >>= _) _ _ s
  by_cases hn : 0 < n
  · refine wpAny_bind (wpAny_tryCatch (W.item 0 s _ _ hn hst fun v h' tk hP hst' hk' => ?_))
    have hS' := hk' S _ hSw hS
    have hg' : G h' := hG _ _ hg fun b o hb _ e => hk' b o hb e
    show wpAny _ A.in1 (updateSeq S (fun _ => #[v, v]) >>= _) _ _ _
    refine wpAny_bind ?_
    refine wpAny_updateSeq hS' rfl ?_
    rw [hname]
    refine wpAny_pure ⟨plainId_quiet F.plain_max_loop _, rf_max_loop W bt hcmp S hSf hG _ 0 _ v _ rfl hn (W.frame _ _ _ hst' fun b hbf o e => ?_) (hG _ _ hg' fun b o _ hbS e => (Heap.get?_update_other _ _ (Ne.symm hbS)).trans e) hP (Heap.get?_update_self _ hS' rfl) fun v' h'' tk'' hP' hk'' => ?_⟩
    · exact (Heap.get?_update_other _ _ (fun h : S = b => hSf (by rw [h]; exact hbf))).trans e
    · exact hR v' h'' tk'' (fun z => by omega) (fun _ => hP') fun b o hbw hbS e => hk'' b o hbw hbS ((Heap.get?_update_other _ _ (Ne.symm hbS)).trans (hk' b o hbw e))
  · have h0 : n = 0 := by omega
    refine wpAny_bind (wpAny_tryCatch (W.done s _ _ (h0 ▸ hst) fun h' tk hk' => ?_))
    show wpAny _ A.in1 (rule _ >>= _) _ _ _
    refine wpAny_bind (wpAny_rule ?_)
    exact wpAny_pure (hR d h' tk (fun _ => rfl) (fun z => absurd z hn) fun b o hb _ e => hk' b o hb e)
end
section
variable {prog : Program} {w : World} {A : Around} {E : Value → Shared → Prop} {s : Shared}
theorem rf_max_list {l : Addr} {items : Array Value} {d : Value} {Q : Value → Shared → Prop} (hh : A.handled = none) (hl : s.heap.IsList l items) (bt : Nat → Nat → Bool)
    (hcmp : CmpG prog w A.in1 .Gt (fun h => ∀ b o, s.heap.get? b = some o → h.get? b = some o) (fun i v => items[i]? = some v) bt)
    (h : ∀ v h' tk, (items.size = 0 → v = d) → (0 < items.size → items[argBest bt (items.size - 1)]? = some v) → (∀ b o, s.heap.get? b = some o → h'.get? b = some o) → Q v { s with heap := h', toks := tk }) :
    wpAny (model prog w) A (call (.builtin "max") [.ref l] [(Str.ofString "default", d)]) Q E s := by
  have hname : (toString "max" ++ toString ".loop" : String) = "max.loop" := by decide
  have hll : l < s.heap.objs.size := by obtain ⟨o, ho, _⟩ := id hl; exact Heap.lt_size ho
  have hlI : l ≠ s.heap.objs.size := Nat.ne_of_lt hll
  refine PyProof.Rows.kmk_tree F.kind_max F.plain_max F.entry_max (rf_max_dflt _ _) ?_
  show wpAny _ A.in1 (Builtin.Builtins.bindParams "max" ["key", "default"] 0 ⟨[], [(Str.ofString "default", d)]⟩ >>= _) _ _ s
  refine wpAny_bind (wpAny_of_eq (show Builtin.Builtins.bindParams "max" ["key", "default"] 0 ⟨[], [(Str.ofString "default", d)]⟩ = pure [none, some d] from rfl) ?_)
  refine wpAny_bind (wpAny_pure ?_)
  refine wpAny_bind (wpAny_pyIter_list hl ?_)
  refine wpAny_bind (wpAny_newList ?_ (Nat.zero_le _))
  rw [hname]
  have W := Walks.list (prog := prog) (w := w) (A := A.in1) hh s.heap.objs.size l hlI items
  have hS : (s.heap.push { cls := .type "list_iterator", data := .fields #[.ref l, .int 0 0] }).objs.size = s.heap.objs.size + 1 := Heap.size_push ..
  refine wpAny_pure ⟨plainId_quiet F.plain_max_loop _, rf_max_first (d := d) W bt hcmp (s.heap.push { cls := .type "list_iterator", data := .fields #[.ref l, .int 0 0] }).objs.size ?_ ?_ ⟨⟨_, Heap.get?_push_of_some _ (Heap.get?_push_size _ rfl), rfl, rfl⟩, hl.at fun o e => Heap.get?_push_of_some _ (Heap.get?_push_of_some _ e)⟩
    (fun b o e => Heap.get?_push_of_some _ (Heap.get?_push_of_some _ e)) (Heap.get?_push_size _ rfl) fun v h' tk h0 h1 hk => ?_⟩
  · rw [hS]
    intro hm
    rcases List.mem_cons.mp hm with z | z
    · exact absurd z (Nat.succ_ne_self _)
    · exact absurd hll (by rw [← List.mem_singleton.mp z]; exact Nat.not_lt.mpr (Nat.le_succ _))
  · intro h1 h2 hg hk b o e
    have hb : b < s.heap.objs.size := Heap.lt_size e
    exact hk b o (fun z => absurd hb (by rw [List.mem_singleton.mp z]; exact Nat.lt_irrefl _)) (by rw [hS]; exact Nat.ne_of_lt (Nat.lt_succ_of_lt hb)) (hg b o e)
  · refine h v h' tk h0 h1 fun b o e => ?_
    have hb : b < s.heap.objs.size := Heap.lt_size e
    exact hk b o (fun z => absurd hb (by rw [List.mem_singleton.mp z]; exact Nat.lt_irrefl _)) (by rw [hS]; exact Nat.ne_of_lt (Nat.lt_succ_of_lt hb)) (Heap.get?_push_of_some _ (Heap.get?_push_of_some _ e))
end

/-- what argBest does: no one is less by f -/
theorem argBest_le (bt : Nat → Nat → Bool) (f : Nat → Int) : ∀ n, (∀ i j, i ≤ n → j ≤ n → bt i j = true → f i ≤ f j) → (∀ i j, i ≤ n → j ≤ n → bt i j = false → f j ≤ f i) → argBest bt n ≤ n ∧ ∀ i, i ≤ n → f (argBest bt n) ≤ f i
  | 0, _, _ => ⟨Nat.le_refl _, fun i hi => by
    have : i = 0 := by omega
    subst this; exact Int.le_refl _⟩
  | n + 1, h1, h2 => by
    obtain ⟨a, b⟩ := argBest_le bt f n (fun i j hi hj => h1 i j (by omega) (by omega)) (fun i j hi hj => h2 i j (by omega) (by omega))
    simp only [argBest]
    cases e : bt (n + 1) (argBest bt n) with
    | true =>
      simp only [if_true]
      refine ⟨Nat.le_refl _, fun i hi => ?_⟩
      by_cases hin : i = n + 1
      · subst hin; exact Int.le_refl _
      · exact Int.le_trans (h1 _ _ (Nat.le_refl _) (by omega) e) (b i (by omega))
    | false =>
      simp only [Bool.false_eq_true, if_false]
      refine ⟨by omega, fun i hi => ?_⟩
      by_cases hin : i = n + 1
      · subst hin; exact h2 _ _ (Nat.le_refl _) (by omega) e
      · exact b i (by omega)
end PySem
namespace RFW
open PySem L2 Evl PySem.W
/-- min(xs, default=None) of data that are alike: the one that no other is less than, by any measure that < respects -/
def rMinD : List V → List V → Hp → VK → Prop := fun vs zs H Q => ∃ (l : Addr) (xs : List V) (ds : List PyData) (z : V), vs = [.ref l] ∧ zs = [z] ∧ H l = some (.lst xs) ∧ TdAll H xs ds ∧ (∀ a ∈ ds, ∀ b ∈ ds, alike a b = true) ∧ (∀ a ∈ ds, a ≠ .none ∧ a.depth ≤ 32) ∧
  (ds = [] → Q z H) ∧ ∀ (i : Nat) (v : V) (d : PyData), xs[i]? = some v → ds[i]? = some d → Td H v d → (∀ f : PyData → Int, (∀ a b, a ∈ ds → b ∈ ds → dataLt a b = true → f a ≤ f b) → (∀ a b, a ∈ ds → b ∈ ds → dataLt a b = false → f b ≤ f a) → ∀ e ∈ ds, f d ≤ f e) → Q v H
section
variable {X : Cx}
theorem cr_minD (hc : X.calm = true) (hu : X.A.units + 64 < cLine) : CallRK X (.builtin "min") [Str.ofString "default"] rMinD := by
  intro pins s σ H vs zs us ws Q I rv rz h
  obtain ⟨l, xs, ds, z, rfl, rfl, hl, hd, hal, hn, q0, q1⟩ := h
  obtain ⟨u, rfl, ru⟩ := rv.one
  obtain ⟨w', rfl, rw'⟩ := rz.one
  cases ru
  obtain ⟨its, rvs, pl, hz⟩ := I.list (SqL.of hl)
  have hlen : its.length = xs.length := rvs.length.symm
  have hdl := hd.length
  -- every item reads as its datum, in every later heap
  have rd : ∀ (i : Nat) (u : Value), its.toArray[i]? = some u → ∃ d, ds[i]? = some d ∧ ∃ as, Reads s.heap u d as := fun i u hu' => by
    have hu2 : its[i]? = some u := by simpa using hu'
    have hi : i < xs.length := by rw [← hlen]; exact (List.getElem?_eq_some_iff.mp hu2).1
    obtain ⟨u', hu3, r3⟩ := rvs.get (List.getElem?_eq_getElem hi)
    rw [hu2] at hu3
    cases hu3
    obtain ⟨d, hd', td⟩ := hd.get' (List.getElem?_eq_getElem hi)
    obtain ⟨as, r⟩ := Dp.reads I d _ _ td.dp r3
    exact ⟨d, hd', as, r⟩
  let bt : Nat → Nat → Bool := fun i j => dataLt (ds.getD i .none) (ds.getD j .none)
  refine rf_min_list (d := w') (I.ok.hd hc) pl.isList bt ?_ ?_
  · intro i j vi vj s' Q' E' hk hi hj hQ
    obtain ⟨d1, e1, as, r1⟩ := rd i vi hi
    obtain ⟨d2, e2, bs, r2⟩ := rd j vj hj
    have m1 := List.mem_of_getElem? e1
    have m2 := List.mem_of_getElem? e2
    have b1 : bt i j = dataLt d1 d2 := by
      show dataLt (ds.getD i .none) (ds.getD j .none) = _
      rw [List.getD_eq_getElem?_getD, List.getD_eq_getElem?_getD, e1, e2]
      rfl
    rw [b1] at hQ
    refine rcLt_alike d1 d2 X.A.in1 s' vi vj as bs (PyProof.Rows.Reads.keeps hk r1) (PyProof.Rows.Reads.keeps hk r2) (hal d1 m1 d2 m2) (hn d1 m1).1 ?_ X.prog X.w E' Q' hQ
    have h3 := (hn d1 m1).2
    have : min d1.depth d2.depth ≤ d1.depth := Nat.min_le_left _ _
    show X.A.units + 1 + _ < _
    omega
  · intro v h' tk h0 h1 hk
    have I1 : Inv X pins σ H { s with heap := h', toks := tk } := I.kept hk
    by_cases he : ds = []
    · have : its.toArray.size = 0 := by rw [List.size_toArray, hlen, hdl, he]; rfl
      have e : v = w' := h0 this
      subst e
      exact ⟨z, H, I1, rw', q0 he⟩
    · have hpos : 0 < ds.length := List.length_pos_iff.mpr he
      have hsz : its.toArray.size = ds.length := by rw [List.size_toArray, hlen, hdl]
      have hv := h1 (by omega)
      have hv2 : its[argBest bt (its.toArray.size - 1)]? = some v := by simpa using hv
      have hi : argBest bt (its.toArray.size - 1) < xs.length := by rw [← hlen]; exact (List.getElem?_eq_some_iff.mp hv2).1
      obtain ⟨u', hu3, r3⟩ := rvs.get (List.getElem?_eq_getElem hi)
      rw [hv2] at hu3
      cases hu3
      obtain ⟨d, hd', td⟩ := hd.get' (List.getElem?_eq_getElem hi)
      refine ⟨_, H, I1, r3, q1 _ _ d (List.getElem?_eq_getElem hi) hd' td fun f f1 f2 e hm => ?_⟩
      have gm : ∀ i, i ≤ its.toArray.size - 1 → ds.getD i .none ∈ ds := fun i hi => by
        rw [List.getD_eq_getElem?_getD, List.getElem?_eq_getElem (by omega)]
        exact List.getElem_mem _
      obtain ⟨_, k2⟩ := argBest_le bt (fun i => f (ds.getD i .none)) (its.toArray.size - 1) (fun i j hi hj => f1 _ _ (gm i hi) (gm j hj)) (fun i j hi hj => f2 _ _ (gm i hi) (gm j hj))
      obtain ⟨j, hj⟩ := List.getElem?_of_mem hm
      have hjl : j < ds.length := (List.getElem?_eq_some_iff.mp hj).1
      have k3 := k2 j (by omega)
      simp only [List.getD_eq_getElem?_getD, hj, hd', Option.getD_some] at k3
      exact k3
/-- max(xs, default=k) of whole numbers -/
def rMaxI : List V → List V → Hp → VK → Prop := fun vs zs H Q => ∃ (l : Addr) (ns : List Int) (z : V), vs = [.ref l] ∧ zs = [z] ∧ H l = some (.lst (ns.map .int)) ∧ (ns = [] → Q z H) ∧ ∀ m, m ∈ ns → (∀ k ∈ ns, k ≤ m) → Q (.int m) H
theorem cr_maxI (hc : X.calm = true) : CallRK X (.builtin "max") [Str.ofString "default"] rMaxI := by
  intro pins s σ H vs zs us ws Q I rv rz h
  obtain ⟨l, ns, z, rfl, rfl, hl, q0, q1⟩ := h
  obtain ⟨u, rfl, ru⟩ := rv.one
  obtain ⟨w', rfl, rw'⟩ := rz.one
  cases ru
  obtain ⟨its, rvs, pl, hz⟩ := I.list (SqL.of hl)
  have hlen : its.length = ns.length := by rw [← rvs.length, List.length_map]
  have rd : ∀ (i : Nat) (u : Value), its.toArray[i]? = some u → ∃ n t, ns[i]? = some n ∧ u = .int n t := fun i u hu' => by
    have hu2 : its[i]? = some u := by simpa using hu'
    have hi : i < ns.length := by rw [← hlen]; exact (List.getElem?_eq_some_iff.mp hu2).1
    obtain ⟨u', hu3, r3⟩ := rvs.get (show (ns.map V.int)[i]? = some (V.int ns[i]) by rw [List.getElem?_map, List.getElem?_eq_getElem hi]; rfl)
    rw [hu2] at hu3
    cases hu3
    obtain ⟨t, rfl⟩ := r3
    exact ⟨_, t, List.getElem?_eq_getElem hi, rfl⟩
  let bt : Nat → Nat → Bool := fun i j => decide (ns.getD i 0 > ns.getD j 0)
  refine rf_max_list (d := w') (I.ok.hd hc) pl.isList bt ?_ ?_
  · intro i j vi vj s' Q' E' hk hi hj hQ
    obtain ⟨n1, t1, e1, rfl⟩ := rd i vi hi
    obtain ⟨n2, t2, e2, rfl⟩ := rd j vj hj
    refine CmpOf.ints_gt (fun i => ns.getD i 0) (P := fun i v => ∃ t, v = .int (ns.getD i 0) t) (fun i v h => h) i j _ _ s' Q' E' ⟨t1, ?_⟩ ⟨t2, ?_⟩ hQ
    · rw [List.getD_eq_getElem?_getD, e1]; rfl
    · rw [List.getD_eq_getElem?_getD, e2]; rfl
  · intro v h' tk h0 h1 hk
    have I1 : Inv X pins σ H { s with heap := h', toks := tk } := I.kept hk
    by_cases he : ns = []
    · have : its.toArray.size = 0 := by rw [List.size_toArray, hlen, he]; rfl
      have e : v = w' := h0 this
      subst e
      exact ⟨z, H, I1, rw', q0 he⟩
    · have hpos : 0 < ns.length := List.length_pos_iff.mpr he
      have hsz : its.toArray.size = ns.length := by rw [List.size_toArray, hlen]
      obtain ⟨n, t, hn, rfl⟩ := rd _ v (h1 (by omega))
      refine ⟨.int n, H, I1, ⟨t, rfl⟩, q1 n (List.mem_of_getElem? hn) fun e hm => ?_⟩
      obtain ⟨_, k2⟩ := argBest_le bt (fun i => - ns.getD i 0) (its.toArray.size - 1) (fun i j hi hj h => by have := of_decide_eq_true h; show - _ ≤ - _; omega) (fun i j hi hj h => by have := of_decide_eq_false h; show - _ ≤ - _; omega)
      obtain ⟨j, hj⟩ := List.getElem?_of_mem hm
      have hjl : j < ns.length := (List.getElem?_eq_some_iff.mp hj).1
      have k3 := k2 j (by omega)
      simp only [List.getD_eq_getElem?_getD, hj, hn, Option.getD_some] at k3
      omega
/-- the rule with keywords, said short -/
theorem pe_minD {p pos : Pos} {e : Expr} {kws : List Keyword} {t tk : TA} (hc : X.calm = true) (hu : X.A.units + 64 < cLine) (hg : Gl X "min") (hm : X.mg "min" = none) (ha : PA X [e] t) (hk : PK X kws tk)
    (he : backTo pos (starEach (e :: []) X.env) = (false, eval e X.env) :: backTo pos (starEach [] X.env) := by rfl) (hpl : (backTo pos (starEach (e :: []) X.env)).any (·.1) = false := by rfl)
    (hall : (backToKw pos (keywordEach kws X.env)).all (·.1.isSome) = true := by rfl) (hnone : (backToKw pos (keywordEach kws X.env)).any (·.1.isNone) = false := by rfl) (hks : (backToKw pos (keywordEach kws X.env)).filterMap (·.1) = [Str.ofString "default"] := by rfl) :
    PE X (.Call (.Name "min" p) [e] kws pos) (tCKw rMinD t tk) := pe_callBK (cr_minD hc hu) hg hm (by decide +kernel) ha hk (by decide) (by decide) he hpl hall hnone hks
theorem pe_maxI {p pos : Pos} {e : Expr} {kws : List Keyword} {t tk : TA} (hc : X.calm = true) (hg : Gl X "max") (hm : X.mg "max" = none) (ha : PA X [e] t) (hk : PK X kws tk)
    (he : backTo pos (starEach (e :: []) X.env) = (false, eval e X.env) :: backTo pos (starEach [] X.env) := by rfl) (hpl : (backTo pos (starEach (e :: []) X.env)).any (·.1) = false := by rfl)
    (hall : (backToKw pos (keywordEach kws X.env)).all (·.1.isSome) = true := by rfl) (hnone : (backToKw pos (keywordEach kws X.env)).any (·.1.isNone) = false := by rfl) (hks : (backToKw pos (keywordEach kws X.env)).filterMap (·.1) = [Str.ofString "default"] := by rfl) :
    PE X (.Call (.Name "max" p) [e] kws pos) (tCKw rMaxI t tk) := pe_callBK (cr_maxI hc) hg hm (by decide +kernel) ha hk (by decide) (by decide) he hpl hall hnone hks
end
end RFW
end

section
set_option Elab.async false
set_option linter.all false
set_option maxRecDepth 100000
set_option maxHeartbeats 4000000
/-! sum(t, ()) of a tuple of tuples. -/
namespace PySem
open Sem (wp)
open PyProof.Rows
theorem rf_args_sum2 (a b : Value) : argsOk "sum" ⟨[a, b], []⟩ := by unfold argsOk; kernel_rfl
theorem rf_sub_tuple_str : isSubtype (.type "tuple") (.type "str") = pure false := by rw [isSubtype_type]; kernel_rfl
theorem rf_sub_tuple_bytes : isSubtype (.type "tuple") (.type "bytes") = pure false := by rw [isSubtype_type]; kernel_rfl
theorem rf_sub_tuple_bytearray : isSubtype (.type "tuple") (.type "bytearray") = pure false := by rw [isSubtype_type]; kernel_rfl
section
variable {prog : Program} {w : World} {A : Around} {R : Result → Shared → Prop} {I : Addr} {fp : List Addr} {n : Nat} {St : Nat → Heap → Prop} {h0 : Heap} {T : Addr → List Value → Prop} {bs : Nat → Addr} {ws : Nat → List Value}
def preCat (ws : Nat → List Value) : Nat → List Value
  | 0 => []
  | j + 1 => preCat ws j ++ ws j
theorem rf_sum_loop (W : Walks prog w A.in1 I fp [I] n (fun i v => v = .ref (bs i)) St) (hlive : ∀ i h, St i h → I < h.objs.size) (hI : h0.objs.size ≤ I) (S : Addr) (hSf : S ∉ fp) (hS0 : h0.objs.size ≤ S)
    (hT : ∀ a its, T a its → ∃ o, h0.get? a = some o) (hT2 : ∀ a its h, T a its → (∀ b o, h0.get? b = some o → h.get? b = some o) → IsTup h a its.toArray)
    (hit : ∀ i, i < n → T (bs i) (ws i)) (hlen : ∀ i, i ≤ n → (preCat ws i).length ≤ sizeLine) :
    ∀ (k i : Nat) (s : Shared) (a : Addr) (c : Nat), n - i = k → i ≤ n → St i s.heap → (∀ b o, h0.get? b = some o → s.heap.get? b = some o) → s.heap.get? S = some { cls := .type "list", dict := none, data := .seq #[.ref a] c, slots := #[] } →
    IsTup s.heap a (preCat ws i).toArray → (T a (preCat ws i) ∨ h0.objs.size ≤ a) → (a ≠ S ∧ a ≠ I) →
    (∀ h' tk a', (∀ b o, h0.get? b = some o → h'.get? b = some o) → IsTup h' a' (preCat ws n).toArray → (T a' (preCat ws n) ∨ h0.objs.size ≤ a') → R (.ok (.ret (.ref a'))) { s with heap := h', toks := tk }) →
    codeAny (model prog w) A (.builtin "sum.loop" ⟨[.ref I, .ref S, rawInt 2, rawInt 0], []⟩) R s := by
  have hIf : I ∈ fp := W.sub _ (List.mem_singleton.mpr rfl)
  have hSI : S ≠ I := fun h => hSf (h ▸ hIf)
  have hSw : S ∉ [I] := fun h => hSI (List.mem_singleton.mp h)
  intro k
  induction k with
  | zero =>
    intro i s a c hk hi hst hg hS ht hTa hne hR
    have hin : i = n := by omega
    subst hin
    refine codeAny_builtin F.entry_sum_loop ?_
    rw [Around.under_plainId F.plain_sum_loop _]
    show wpAny _ A.in1 (seqItems? (.ref S) >>= _) _ _ s
    refine wpAny_bind (wpAny_seqItems hS rfl ?_)
    show wpAny _ A.in1 (tryCatch (pyNext (.ref I)) _ >>= _) _ _ s
    refine wpAny_bind (wpAny_tryCatch (W.done s _ _ hst fun h' tk hk' => ?_))
    refine wpAny_pure (hR h' tk a (fun b o e => hk' b o (fun z => ?_) (hg b o e)) ?_ hTa)
    · exact absurd (Heap.lt_size e) (by rw [List.mem_singleton.mp z]; exact Nat.not_lt.mpr hI)
    · obtain ⟨o, ho, r⟩ := ht
      exact ⟨o, hk' a o (fun z => hne.2 (List.mem_singleton.mp z)) ho, r⟩
  | succ k ih =>
    intro i s a c hk hi hst hg hS ht hTa hne hR
    have hlt : i < n := by omega
    refine codeAny_builtin F.entry_sum_loop ?_
    rw [Around.under_plainId F.plain_sum_loop _]
    show wpAny _ A.in1 (seqItems? (.ref S) >>= _) _ _ s
    refine wpAny_bind (wpAny_seqItems hS rfl ?_)
    show wpAny _ A.in1 (tryCatch (pyNext (.ref I)) _ >>= _) _ _ s
    refine wpAny_bind (wpAny_tryCatch (W.item i s _ _ hlt hst fun v h' tk hP hst' hk' => ?_))
    subst hP
    have hS' := hk' S _ hSw hS
    have hg' : ∀ b o, h0.get? b = some o → h'.get? b = some o := fun b o e => hk' b o (fun z => absurd (Heap.lt_size e) (by rw [List.mem_singleton.mp z]; exact Nat.not_lt.mpr hI)) (hg b o e)
    have ht' : IsTup h' a (preCat ws i).toArray := by
      obtain ⟨o, ho, r⟩ := ht
      exact ⟨o, hk' a o (fun z => hne.2 (List.mem_singleton.mp z)) ho, r⟩
    have hTi := hit i hlt
    have hti : IsTup h' (bs i) (ws i).toArray := hT2 _ _ _ hTi hg'
    -- behind the sum of two: at a' in the heap h2
    have go : ∀ (h2 : Heap) (a' : Addr), (∀ b o, h'.get? b = some o → h2.get? b = some o) → IsTup h2 a' (preCat ws (i + 1)).toArray → (T a' (preCat ws (i + 1)) ∨ h0.objs.size ≤ a') → (a' ≠ S ∧ a' ≠ I) →
        wpAny (model prog w) A.in1 (updateSeq S (fun _ => #[.ref a']) >>= fun _ => letGo [.ref a, .ref (bs i)] >>= fun _ => updateSeq S (fun _ => #[.ref a']) >>= fun _ => again (.builtin "sum.loop" ⟨[.ref I, .ref S, rawInt 2, rawInt 0], []⟩))
          (fun fin s' => match fin with | .done f => R (.ok f) s' | .again c' => c'.quiet = true ∧ codeAny (model prog w) A c' R s') (fun e s' => R (.error e) s') { s with heap := h2, toks := tk } := by
      intro h2 a' k2 t2 T2 n2
      have hS2 := k2 S _ hS'
      refine wpAny_bind (wpAny_updateSeq hS2 rfl (wpAny_bind (wpAny_letGo (wpAny_bind (wpAny_updateSeq (Heap.get?_update_self _ hS2 rfl) rfl (wpAny_pure ?_))))))
      have old : ∀ b o, b ≠ S → h2.get? b = some o → ((h2.update S (Obj.mapSeq fun _ => #[.ref a'])).update S (Obj.mapSeq fun _ => #[.ref a'])).get? b = some o := fun b o hb e =>
        (Heap.get?_update_other _ _ (Ne.symm hb)).trans ((Heap.get?_update_other _ _ (Ne.symm hb)).trans e)
      refine ⟨plainId_quiet F.plain_sum_loop _, ih (i + 1) _ a' _ (by omega) hlt (W.frame _ _ _ hst' fun b hb o e => old b o (fun z => hSf (z ▸ hb)) (k2 b o e)) (fun b o e => old b o (fun z => ?_) (k2 b o (hg' b o e)))
        (Heap.get?_update_self _ (Heap.get?_update_self _ hS2 rfl) rfl) ?_ T2 n2 fun h3 tk3 a3 g3 => hR h3 tk3 a3 g3⟩
      · exact absurd (Heap.lt_size e) (by rw [z]; exact Nat.not_lt.mpr hS0)
      · obtain ⟨o, ho, r⟩ := t2
        exact ⟨o, old a' o n2.1 ho, r⟩
    have hne' : bs i ≠ S ∧ bs i ≠ I := by
      obtain ⟨o, ho⟩ := hT _ _ hTi
      have hlt := Heap.lt_size ho
      exact ⟨fun z => absurd hlt (by rw [z]; exact Nat.not_lt.mpr hS0), fun z => absurd hlt (by rw [z]; exact Nat.not_lt.mpr hI)⟩
    show wpAny _ A.in1 ((holding [.ref (bs i)] (binaryOp .Add (.ref a) (.ref (bs i)))).attempt >>= _) _ _ _
    refine wpAny_bind (wpAny_attempt (wpAny_holding ?_))
    by_cases hw0 : preCat ws i = []
    · have hw0' : (preCat ws i).toArray = ([] : List Value).toArray := by rw [hw0]
      rw [hw0'] at ht'
      refine L2.cat_tup0 ht' hti ?_
      have e1 : preCat ws (i + 1) = ws i := by simp [preCat, hw0]
      exact go h' (bs i) (fun _ _ e => e) (by rw [e1]; exact hti) (by rw [e1]; exact .inl hTi) hne'
    · refine HT.cat_tup ht' hti hw0 (fun hw1 => ?_) (fun hw1 => ?_) (by have := hlen (i + 1) hlt; simpa [preCat] using this)
      · have e1 : preCat ws (i + 1) = preCat ws i := by simp [preCat, hw1]
        exact go h' a (fun _ _ e => e) (by rw [e1]; exact ht') (by rw [e1]; exact hTa) hne
      · have hSl : S < h'.objs.size := Heap.lt_size hS'
        have hIl : I < h'.objs.size := hlive _ _ hst'
        have h0l : h0.objs.size ≤ h'.objs.size := Nat.le_trans hI (Nat.le_of_lt hIl)
        exact go _ h'.objs.size (fun _ _ e => Heap.get?_push_of_some _ e) (IsTup.new _ _) (.inr h0l) ⟨Nat.ne_of_gt hSl, Nat.ne_of_gt hIl⟩
end
section
variable {prog : Program} {w : World} {A : Around} {E : Value → Shared → Prop} {s : Shared}
theorem rf_call_sum {t st : Addr} {items : List Value} {T : Addr → List Value → Prop} {bs : Nat → Addr} {ws : Nat → List Value} {Q : Value → Shared → Prop} (hh : A.handled = none) (ht : s.heap.IsTuple t items.toArray)
    (hT : ∀ a its, T a its → ∃ o, s.heap.get? a = some o) (hT2 : ∀ a its h, T a its → (∀ b o, s.heap.get? b = some o → h.get? b = some o) → IsTup h a its.toArray) (hst : T st [])
    (hval : ∀ (i : Nat) (v : Value), items[i]? = some v → v = Value.ref (bs i)) (hit : ∀ i, i < items.length → T (bs i) (ws i)) (hlen : ∀ i, i ≤ items.length → (preCat ws i).length ≤ sizeLine)
    (h : ∀ h' tk a', (∀ b o, s.heap.get? b = some o → h'.get? b = some o) → IsTup h' a' (preCat ws items.length).toArray → (T a' (preCat ws items.length) ∨ s.heap.objs.size ≤ a') → Q (.ref a') { s with heap := h', toks := tk }) :
    wpAny (model prog w) A (call (.builtin "sum") [.ref t, .ref st]) Q E s := by
  refine call_function_tree F.kind_sum F.plain_sum F.entry_sum (rf_args_sum2 _ _) ?_
  unfold Builtin.«sum»
  simp only [List.length_cons, List.length_nil]
  rw [if_neg (by decide)]
  refine wpAny_bind (wpAny_of_eq (show Builtin.Builtins.bindParams "sum" ["start"] 0 { pos := [.ref st] } = pure [some (.ref st)] from rfl) ?_)
  refine wpAny_bind (wpAny_pyIter_tuple ht ?_)
  refine wpAny_bind (wpAny_pure ?_)
  simp only [List.forIn_cons, List.forIn_nil]
  have ts : IsTup s.heap st ([] : List Value).toArray := hT2 _ _ _ hst fun _ _ e => e
  have tI : Shared.TypeIs { s with heap := s.heap.push { cls := .type "tuple_iterator", data := .fields #[.ref t, .int 0 0] } } (.ref st) "tuple" := by
    obtain ⟨o, ho, hc, _⟩ := ts
    exact ⟨o, Heap.get?_push_of_some _ ho, hc⟩
  refine wpAny_bind (wpAny_bind (wpAny_bind (wpAny_isInstance (T := "tuple") (b := false) tI rf_sub_tuple_str ?_)))
  simp only [Bool.false_eq_true, if_false]
  refine wpAny_pure (wpAny_bind (wpAny_bind (wpAny_isInstance (T := "tuple") (b := false) tI rf_sub_tuple_bytes ?_)))
  simp only [Bool.false_eq_true, if_false]
  refine wpAny_pure (wpAny_bind (wpAny_bind (wpAny_isInstance (T := "tuple") (b := false) tI rf_sub_tuple_bytearray ?_)))
  simp only [Bool.false_eq_true, if_false]
  refine wpAny_pure (wpAny_pure ?_)
  refine wpAny_bind (wpAny_newObj_type ?_)
  obtain ⟨ot, hot, _⟩ := id ht
  have htl : t < s.heap.objs.size := Heap.lt_size hot
  have hsl : st < s.heap.objs.size := by obtain ⟨o, ho, _⟩ := ts; exact Heap.lt_size ho
  have hS : (s.heap.push { cls := .type "tuple_iterator", data := .fields #[.ref t, .int 0 0] }).objs.size = s.heap.objs.size + 1 := Heap.size_push ..
  have W := Walks.tuple (prog := prog) (w := w) (A := A.in1) hh s.heap.objs.size t (Nat.ne_of_lt htl) items.toArray
  have W' : Walks prog w A.in1 s.heap.objs.size [s.heap.objs.size, t] [s.heap.objs.size] items.length (fun i v => v = .ref (bs i)) (fun i h => h.IsTupleIter s.heap.objs.size t i ∧ h.IsTuple t items.toArray) := by
    have e : items.toArray.size = items.length := List.size_toArray ..
    rw [e] at W
    exact ⟨W.sub, W.frame, fun i s Q E hi st hQ => W.item i s Q E hi st fun v h' tk hP => hQ v h' tk (hval i v (by simpa using hP)), W.done, W.self⟩
  refine wpAny_pure ⟨plainId_quiet F.plain_sum_loop _, rf_sum_loop (h0 := s.heap) (T := T) (bs := bs) (ws := ws) W' (fun i h st => let ⟨⟨o, ho, _⟩, _⟩ := st; Heap.lt_size ho) (Nat.le_refl _) (s.heap.push { cls := .type "tuple_iterator", data := .fields #[.ref t, .int 0 0] }).objs.size ?_ (by rw [hS]; exact Nat.le_succ _) hT hT2 hit hlen _ 0 _ st 0 rfl (Nat.zero_le _)
    ⟨⟨_, Heap.get?_push_of_some _ (Heap.get?_push_size _ rfl), rfl, rfl⟩, ht.at fun o e => Heap.get?_push_of_some _ (Heap.get?_push_of_some _ e)⟩ (fun b o e => Heap.get?_push_of_some _ (Heap.get?_push_of_some _ e)) (Heap.get?_push_size _ rfl)
    (hT2 _ _ _ hst fun b o e => Heap.get?_push_of_some _ (Heap.get?_push_of_some _ e)) (.inl hst) ⟨Nat.ne_of_lt (by rw [hS]; exact Nat.lt_succ_of_lt hsl), Nat.ne_of_lt hsl⟩ fun h' tk a' k1 k2 k3 => h h' tk a' k1 k2 k3⟩
  rw [hS]
  intro hm
  rcases List.mem_cons.mp hm with z | z
  · exact absurd z (Nat.succ_ne_self _)
  · exact absurd htl (by rw [← List.mem_singleton.mp z]; exact Nat.not_lt.mpr (Nat.le_succ _))
end
end PySem
namespace RFW
open PySem L2 Evl PyProof.Rows
theorem preCat_take {α : Type} (xss : List (List Value)) : ∀ n, n ≤ xss.length → preCat (fun i => xss.getD i []) n = (xss.take n).flatten
  | 0, _ => by simp [preCat]
  | n + 1, h => by
    rw [preCat, preCat_take (α := α) xss n (by omega), List.take_add_one, List.flatten_append, List.getD_eq_getElem?_getD, List.getElem?_eq_getElem (by omega)]
    simp
/-- sum(t, ()): all the items of the tuples in t -/
def rSumT : List V → Hp → VK → Prop := fun vs H Q => ∃ (t st : Addr) (bs : List Addr) (xss : List (List V)), vs = [.ref t, .ref st] ∧ H t = some (.tup (bs.map V.ref)) ∧ H st = some (.tup []) ∧ Paired (fun b xs => H b = some (.tup xs)) bs xss ∧ xss.flatten.length ≤ 100000 ∧
  ∀ a H', Ex H H' → H' a = some (.tup xss.flatten) → Q (.ref a) H'
section
variable {X : Cx}
theorem vals_flat : ∀ {xss : List (List V)} {uss : List (List Value)}, Paired Vals xss uss → Vals xss.flatten uss.flatten
  | _, _, .nil => .nil
  | _, _, .cons r t => by rw [List.flatten_cons, List.flatten_cons]; exact r.append (vals_flat t)
theorem pairedGet {α β : Type} {F : α → β → Prop} : ∀ {l₁ : List α} {l₂ : List β} {j : Nat} {x : α}, Paired F l₁ l₂ → l₁[j]? = some x → ∃ y, l₂[j]? = some y ∧ F x y
  | _, _, j, x, .nil, h => by simp at h
  | _, _, 0, x, .cons r t, h => by
    simp at h; subst h
    exact ⟨_, rfl, r⟩
  | _, _, j + 1, x, .cons r t, h => by
    obtain ⟨y, h1, h2⟩ := pairedGet (j := j) t (by simpa using h)
    exact ⟨y, by simpa using h1, h2⟩
theorem cr_sumT (hc : X.calm = true) : CallR X (.builtin "sum") rSumT := by
  intro pins s σ H vs us Q I r h
  obtain ⟨t, st, bs, xss, rfl, ht, hst, hp, hz, q⟩ := h
  obtain ⟨u1, u2, rfl, r1, r2⟩ := r.two
  cases r1
  cases r2
  obtain ⟨its, rv, p, _⟩ := I.tuple (SqT.of ht)
  have eits : its = bs.map Value.ref := refs_at rv
  subst eits
  let T : Addr → List Value → Prop := fun a its => ∃ xs, H a = some (.tup xs) ∧ Vals xs its ∧ IsTup s.heap a its.toArray
  have mk : ∀ {bs : List Addr} {xss : List (List V)}, Paired (fun b xs => H b = some (.tup xs)) bs xss → ∃ wss : List (List Value), Paired T bs wss ∧ Paired Vals xss wss := by
    intro bs xss hp
    induction hp with
    | nil => exact ⟨[], .nil, .nil⟩
    | cons r _ ih =>
      obtain ⟨wss, h1, h2⟩ := ih
      obtain ⟨z, its, rv, p⟩ := I.hok _ _ r
      exact ⟨its :: wss, .cons ⟨_, r, rv, p⟩ h1, .cons rv h2⟩
  obtain ⟨wss, w1, w2⟩ := mk hp
  have l1 : bs.length = wss.length := Paired.length w1
  have vf := vals_flat w2
  have hflen : wss.flatten.length ≤ 100000 := by rw [← vf.length]; exact hz
  have hpre : ∀ n, n ≤ wss.length → preCat (fun i => wss.getD i []) n = (wss.take n).flatten := fun n hn => preCat_take (α := Unit) wss n hn
  obtain ⟨zs, its0, rv0, p0⟩ := I.hok _ _ hst
  cases rv0
  refine rf_call_sum (T := T) (bs := fun i => bs.getD i 0) (ws := fun i => wss.getD i []) (I.ok.hd hc) (show s.heap.IsTuple t _ from p) (fun a its ⟨xs, h1, h2, h3⟩ => ?_) (fun a its h ⟨xs, h1, h2, h3⟩ k => ?_) ⟨[], hst, .nil, p0⟩ (fun i v e => ?_) (fun i hi => ?_) (fun i hi => ?_) fun h' tk a' k1 k2 k3 => ?_
  · obtain ⟨o, ho, _⟩ := h3
    exact ⟨o, ho⟩
  · obtain ⟨o, ho, r⟩ := h3
    exact ⟨o, k _ _ ho, r⟩
  · rw [List.getElem?_map] at e
    rw [List.getD_eq_getElem?_getD]
    cases q : bs[i]? with
    | none => rw [q] at e; cases e
    | some b =>
      rw [q] at e
      exact (Option.some.inj e).symm
  · rw [List.length_map] at hi
    obtain ⟨ws, e1, e2⟩ := pairedGet w1 (List.getElem?_eq_getElem hi)
    show T (bs.getD i 0) (wss.getD i [])
    rw [List.getD_eq_getElem?_getD, List.getD_eq_getElem?_getD, e1, List.getElem?_eq_getElem hi]
    exact e2
  · rw [List.length_map, l1] at hi
    rw [hpre i hi]
    refine Nat.le_trans ?_ (sz_of hflen)
    have e : wss.flatten = (wss.take i).flatten ++ (wss.drop i).flatten := by rw [← List.flatten_append, List.take_append_drop]
    rw [e, List.length_append]
    exact Nat.le_add_right _ _
  · rw [List.length_map, l1, hpre _ (Nat.le_refl _), List.take_length] at k2 k3
    have I1 : Inv X pins σ H { s with heap := h', toks := tk } := I.kept k1
    rcases k3 with ⟨xs, h1, h2, h3⟩ | hnew
    · have e : xs = xss.flatten := h2.inj vf
      subst e
      exact ⟨.ref a', H, I1, rfl, q a' H (Ex.refl H) h1⟩
    · have hn : H a' = none := I.hok.fresh hnew
      refine ⟨.ref a', upd H a' (.tup xss.flatten), I.laid (t' := tk) k1 hnew ?_, rfl, q a' _ (Ex.new hn) upd_same⟩
      exact ⟨by rw [vf.length]; exact sz_of hflen, _, vf, k2⟩
end
end RFW
end

section
set_option Elab.async false
set_option linter.all false
set_option maxRecDepth 100000
set_option maxHeartbeats 4000000
/-! sorted(x), tuple(x) of what KdlSrc tells of: a dict's keys, a view of its values. -/
namespace RFW
open PySem L2 Evl PyProof.Rows
section
variable {X : Cx} {pins : List (Addr × Obj)} {σ : L2.St} {H : Hp} {s : Shared}
mutual
theorem Td.reads (I : Inv X pins σ H s) : ∀ (d : PyData) (v : V) (u : Value), Td H v d → RelV v u → Reads s.heap u d []
  | .none, _, _, h, r => by
    cases h; cases r
    exact Reads.none
  | .bool b, _, _, h, r => by
    cases h; cases r
    exact Reads.bool b
  | .int i, _, _, h, r => by
    cases h
    obtain ⟨t, rfl⟩ := r
    exact Reads.int i t
  | .str x, _, _, h, r => by
    cases h
    obtain ⟨t, rfl⟩ := r
    exact Reads.str x t
  | .list ds, _, _, h, r => by cases h
  | .tuple ds, _, _, h, r => by
    cases h with
    | tup hs hz ha =>
      cases r
      obtain ⟨its, rv, ⟨o, ho, hc, n, hd⟩, _⟩ := I.tuple (SqT.of hs)
      exact Reads.tuple ho hc hd (TdAll.reads I ds _ its ha rv)
  | .dict _, _, _, h, _ => by cases h
theorem TdAll.reads (I : Inv X pins σ H s) : ∀ (ds : List PyData) (vs : List V) (us : List Value), TdAll H vs ds → Vals vs us → ReadsAll s.heap us ds []
  | [], _, _, h, r => by
    cases h; cases r
    exact ReadsAll.nil
  | d :: ds, _, _, h, r => by
    cases h with
    | cons h1 h2 =>
      cases r with
      | cons r1 r2 => exact ReadsAll.cons (as := []) (bs := []) (Td.reads I d _ _ h1 r1) (TdAll.reads I ds _ _ h2 r2)
end
end
end RFW
namespace PySem.W
open PySem PySem.Calls PyProof.Rows PyProof.V PySem.Spec
section
variable {prog : Program} {w : World} {A : Around} {E : Value → Shared → Prop} {s : Shared} {T : String} {r d : Addr} {n : Nat} {P : Nat → Value → Prop} {OK : Heap → Prop}
theorem rf_collect {R : List Value → Shared → Prop} (K : KdlSrc prog w T r d n P OK) (hh : A.handled = none) (hok : OK s.heap) (hn : n ≤ sizeLine)
    (h : ∀ (h' : Heap) (tk : Nat) (acc : Array Value), (∀ b o, s.heap.get? b = some o → h'.get? b = some o) → s.heap.objs.size < h'.objs.size → ItemsOf P acc n → R acc.toList { s with heap := h', toks := tk }) :
    wpAny (model prog w) A (collect (.ref r)) R E s := by
  have hlt := K.there _ hok
  unfold collect
  refine wpAny_bind (wpAny_runValue (codeAny_builtin F.entry_proto_collect ?_))
  rw [Around.under_plainId F.plain_proto_collect _]
  show wpAny _ A.in1 (newList [] >>= fun l => again (.builtin "list.__iadd__" ⟨[l, .ref r], []⟩)) _ _ s
  refine wpAny_bind (wpAny_newObj_type ?_)
  refine wpAny_pure ⟨plainId_quiet F.plain_list_iadd _, codeAny_builtin F.entry_list_iadd ?_⟩
  rw [Around.under_plainId F.plain_list_iadd _]
  have hS₁ : (s.heap.push { cls := .type "list", data := .seq ([] : List Value).toArray }).get? s.heap.objs.size = some { cls := .type "list", data := .seq #[] } := Heap.get?_push_size _ rfl
  show wpAny _ A.in1 (Builtin.List.listExtendWith (.ref s.heap.objs.size) (.ref r) (.ref s.heap.objs.size)) _ _ _
  have key := kdl_extend (A := A) (s := { s with heap := s.heap.push { cls := .type "list", data := .seq ([] : List Value).toArray } })
    (R := fun (q : Result) (s' : Shared) => ∃ (h' : Heap) (tk : Nat) (acc' : Array Value) (c' : Nat), q = .ok (.ret (.ref s.heap.objs.size)) ∧ s' = { s with heap := h', toks := tk } ∧
      (∀ b o, s.heap.get? b = some o → h'.get? b = some o) ∧ h'.get? s.heap.objs.size = some { cls := .type "list", dict := none, data := .seq acc' c', slots := #[] } ∧ ItemsOf P acc' n)
    K hh (K.keep _ _ hok fun b _ o e => Heap.get?_push_of_some _ e) s.heap.objs.size (Nat.ne_of_gt hlt.1) (Nat.ne_of_gt hlt.2) (.ref s.heap.objs.size) 0 hS₁
    (fun h' tk acc' c' hk hS' hi => ⟨h', tk, acc', c', rfl, rfl, fun b o e => hk b o (Nat.ne_of_lt (Heap.lt_size e)) (Heap.get?_push_of_some _ e), hS', hi⟩) hn
  refine wpAny_mono key (fun fin s' x => ?_) fun e s' x => ?_
  · cases fin with
    | done f =>
      obtain ⟨h', tk, acc', c', e, rfl, hk, hS', hi⟩ := x
      cases e
      show wpAny _ A (load s.heap.objs.size >>= _) _ _ _
      exact wpAny_bind (wpAny_load hS' (wpAny_pure (h h' tk acc' hk (Heap.lt_size hS') hi)))
    | again c₁ =>
      refine ⟨x.1, codeAny_mono x.2 fun q s₂ y => ?_⟩
      obtain ⟨h', tk, acc', c', rfl, rfl, hk, hS', hi⟩ := y
      show wpAny _ A (load s.heap.objs.size >>= _) _ _ _
      exact wpAny_bind (wpAny_load hS' (wpAny_pure (h h' tk acc' hk (Heap.lt_size hS') hi)))
  · obtain ⟨_, _, _, _, e', _⟩ := x
    cases e'
theorem rf_sorted_src {β : Type} {enc : β → PyData} {bs : List β} {R : Value → β → Prop} {Q : Value → Shared → Prop} (K : KdlSrc prog w T r d n P OK) (hh : A.handled = none) (hok : OK s.heap) (hn : n ≤ sizeLine)
    (hb : ∀ acc : Array Value, ItemsOf P acc n → EachIs R acc.toList bs ∧ EachIs (fun v b => Reads s.heap v (enc b) []) acc.toList bs)
    (hal : AllAlike (bs.map enc)) (hk : Sortable (bs.map enc)) (hu : ∀ b, b ∈ bs → A.units + 2 + (enc b).depth < cLine)
    (h : ∀ (h' : Heap) (tk : Nat) (out : List Value) (p : Addr) (c : Nat), (∀ b o, s.heap.get? b = some o → h'.get? b = some o) → s.heap.objs.size ≤ p → h'.get? p = some (seqObj "list" out.toArray c) → EachIs R out (bs.mergeSort (dataLe false enc)) → Q (.ref p) { s with heap := h', toks := tk }) :
    wpAny (model prog w) A (call (.builtin "sorted") [.ref r]) Q E s := by
  refine call_function_entry kind_sorted plain_sorted entry_sorted (args_sorted1 _) ?_
  unfold Builtin.«sorted»
  refine wpAny_bind (m := checkCount "sorted" 1 1 _) (wpAny_pure ?_)
  refine wpAny_bind (rf_collect (A := A.in1) K hh hok hn fun h' tk acc hkp hsz hi => ?_)
  obtain ⟨e1, e2⟩ := hb acc hi
  have hl : acc.toList.length = n := by rw [Array.length_toList]; exact hi.1
  refine wpAny_bind (wpAny_newList ?_ (by rw [hl]; exact hn))
  have ho : (h'.push { cls := .type "list", data := .seq acc.toList.toArray }).get? h'.objs.size = some (seqObj "list" acc.toList.toArray 0) := Heap.get?_push_size _ rfl
  have old : ∀ b o, s.heap.get? b = some o → (h'.push { cls := .type "list", data := .seq acc.toList.toArray }).get? b = some o := fun b o e => Heap.get?_push_of_some _ (hkp b o e)
  refine wpAny_bind (wpAny_holding (list_sort_data (s := { s with heap := h'.push { cls := .type "list", data := .seq acc.toList.toArray }, toks := tk }) (enc := enc) ho e1 ?_ hal hk (by rw [← e1.length, hl]; exact hn) (fun b hb => hu b hb) fun out hol he => ?_))
  · exact e2.mono fun v b q => ⟨[], PyProof.Rows.Reads.keeps old q, List.not_mem_nil⟩
  · obtain ⟨c, hc⟩ := sortedHeap_at (out := out.toArray) ho
    refine wpAny_pure ⟨_, rfl, h _ tk out h'.objs.size c (fun b o e => ?_) (Nat.le_of_lt hsz) hc he⟩
    have hb : b < s.heap.objs.size := Heap.lt_size e
    have hb' : b < h'.objs.size := Nat.lt_trans hb hsz
    exact (sortedHeap_old (Nat.ne_of_lt hb') (by rw [size_push']; exact Nat.lt_succ_of_lt hb')).trans (old b o e)
theorem rf_tuple_src {Q : Value → Shared → Prop} (K : KdlSrc prog w T r d n P OK) (hT : T = "dict") (hh : A.handled = none) (hok : OK s.heap) (hn : n ≤ sizeLine)
    (h : ∀ (h' : Heap) (tk : Nat) (acc : Array Value), (∀ b o, s.heap.get? b = some o → h'.get? b = some o) → s.heap.objs.size < h'.objs.size → ItemsOf P acc n →
      Q (.ref h'.objs.size) { s with heap := h'.push { cls := .type "tuple", data := .seq acc }, toks := tk }) :
    wpAny (model prog w) A (call (.type "tuple") [.ref r]) Q E s := by
  subst hT
  have code : codeAny (model prog w) A.in1 (.call (.builtin "tuple.__new__") ⟨[.type "tuple", .ref r], []⟩) (wants (fun obj s₁ => s₁.TypeIs obj "tuple" ∧ Q obj s₁) E) s := by
    refine codeAny_of_tree ?_
    show wpAny _ A.in1.in1 (do checkBuiltinCall "tuple.__new__" ⟨[.type "tuple", .ref r], []⟩; again (.builtin "tuple.__new__" ⟨[.type "tuple", .ref r], []⟩)) _ _ s
    refine wpAny_bind (wpAny_of_eq (F.newCall_tuple_1 _) (wpAny_pure ⟨plainId_quiet F.plain_tuple_new _, codeAny_builtin F.entry_tuple_new ?_⟩))
    rw [Around.under_plainId F.plain_tuple_new _]
    have hsub := sub_tuple_self
    have hinit := init_tuple_lookup
    have hmh := madeHere_tuple
    have hTI : s.TypeIs (.ref r) "dict" := K.type s hok
    have hh1 : A.in1.in1.handled = none := hh
    wp_walk using wpAny_typeOf hTI, rf_collect (A := A.in1.in1) K hh1 hok hn
    intro h' tk acc hk hsz hacc
    show wpAny _ _ (Builtin.Tuple.tupleExact acc.toList.toArray >>= fun v => ret v) _ _ _
    unfold Builtin.Tuple.tupleExact
    refine wpAny_bind (wpAny_newObj_type ?_ (by show acc.toList.toArray.size ≤ sizeLine; simp only [Array.toArray_toList]; rw [hacc.1]; exact hn))
    refine wpAny_pure ?_
    have e : acc.toList.toArray = acc := by simp
    rw [e]
    exact ⟨⟨_, Heap.get?_push_size _ rfl, rfl⟩, h h' tk acc hk hsz hacc⟩
  refine callType_codes (Q₁ := fun obj s₁ => s₁.TypeIs obj "tuple" ∧ Q obj s₁) F.called_tuple (F.typeCall_tuple_1 _) F.entry_object_init code fun obj s₁ h₁ => ?_
  exact ⟨h₁.1, F.args_object_init_2 obj _, object_init_meets F.called_tuple.init.lookup F.called_tuple.made (by decide) prog w A.in1 _ s₁ ⟨h₁.1, rfl, h₁.2⟩⟩
end
end PySem.W
namespace RFW
open PySem L2 Evl PyProof.Rows
section
variable {X : Cx} {pins : List (Addr × Obj)} {σ : L2.St} {H : Hp} {s : Shared} {d : Addr} {kvs : List (List Key × V)}
theorem dT_items (I : Inv X pins σ H s) (hd : Rd H d (.dT kvs)) : ∃ (o : Obj) (es : Array DictEntry) (ep : Nat) (bs : List Addr), s.heap.get? d = some o ∧ o.ExactDict ∧ o.data = .dict es ep ∧ (d == sysModules) = false ∧ es.size = kvs.length ∧ kvs.length ≤ sizeLine ∧ IsKeys H kvs bs ∧
    ∀ acc : Array Value, ItemsOf (fun i v => ∃ en : DictEntry, es[i]? = some en ∧ v = en.key) acc es.size → acc.toList = bs.map Value.ref := by
  obtain ⟨z, hs, ks, pr, o, es, ep, ho, hx, hdt, he, hn⟩ := (show ObjOk X.prog X.w H s.heap d (.dT kvs) from hd.ok I.hok)
  have l1 : es.size = ks.length := size_of_entries he
  have l2 : kvs.length = ks.length := Paired.length pr
  refine ⟨o, es, ep, ks.map fun x => x.2.1, ho, hx, hdt, hs, by omega, z, isKeys_of pr, fun acc' it => ?_⟩
  have ea : acc'.toList = ks.map fun x => Value.ref x.2.1 := by
    have hl : acc'.toList.length = ks.length := by rw [Array.length_toList, it.1]; exact l1
    apply List.ext_getElem?
    intro j
    rw [List.getElem?_map]
    cases hj : acc'.toList[j]? with
    | none =>
      have h1 := List.getElem?_eq_none_iff.mp hj
      rw [List.getElem?_eq_none (by omega)]
      all_goals rfl
    | some v =>
      obtain ⟨en, hen, hv⟩ := it.2 j v (by rw [← Array.getElem?_toList]; exact hj)
      have qe := entry_at he j
      rw [hen] at qe
      cases hb : ks[j]? with
      | none =>
        rw [hb] at qe
        exact nomatch (show some en = none from qe)
      | some b =>
        rw [hb] at qe
        have e2 : en = entryOfKey (tupleKind (mixKind X.prog X.w)) b := Option.some.inj qe
        rw [hv, e2]
        all_goals rfl
  rw [ea, List.map_map]
  all_goals rfl
/-- tuple(d), d a dict with tuple keys -/
theorem cr_tuple_dT (hc : X.calm = true) : CallR X (.type "tuple") (fun xs H Q => ∃ d kvs, xs = [V.ref d] ∧ Rd H d (.dT kvs) ∧ ∀ p bs, H p = none → IsKeys H kvs bs → Q (.ref p) (upd H p (.tup (bs.map V.ref)))) := by
  intro pins s σ H xs us Q I r h
  obtain ⟨d, kvs, rfl, hd, q⟩ := h
  obtain ⟨u, rfl, rx⟩ := r.one
  cases rx
  obtain ⟨o, es, ep, bs, ho, hx, hdt, hs, l1, z, ik, hi⟩ := dT_items I hd
  refine PySem.W.rf_tuple_src (L2.kdl_raw hs hx hdt) rfl (I.ok.hd hc) ho (by omega) fun h' tk acc k1 k2 it => ?_
  have ea := hi acc it
  have I1 : Inv X pins σ H { s with heap := h', toks := tk } := I.kept k1
  have hn : H h'.objs.size = none := I1.hok.fresh (Nat.le_refl _)
  have rv : Vals (bs.map V.ref) acc.toList := by rw [ea]; exact vals_refs _
  have hz : (bs.map V.ref).length ≤ sizeLine := by rw [rv.length, Array.length_toList, it.1]; omega
  refine ⟨.ref h'.objs.size, _, I1.laid (t' := tk) (o := .tup (bs.map V.ref)) (fun b o e => Heap.get?_push_of_some _ e) (Nat.le_refl _) ?_, rfl, q _ _ hn ik⟩
  refine ⟨hz, acc.toList, rv, ?_⟩
  have e : acc.toList.toArray = acc := by simp
  rw [e]
  exact IsTup.new _ _
def keyD : Key → PyData
  | .inl i => .int i
  | .inr x => .str x
def keysD (ks : List Key) : PyData := .tuple (ks.map keyD)
theorem td_keys {H : Hp} : ∀ ks : List Key, TdAll H (ks.map kV) (ks.map keyD)
  | [] => .nil
  | .inl i :: r => .cons (.int i) (td_keys r)
  | .inr x :: r => .cons (.str x) (td_keys r)
theorem td_key {H : Hp} {b : Addr} {ks : List Key} (h : H b = some (.tup (ks.map kV))) (hz : ks.length ≤ 100000) : Td H (.ref b) (keysD ks) := .tup h (by rw [List.length_map]; exact hz) (td_keys ks)
/-- sorted(d): the keys in some arrangement -/
theorem cr_sorted_dT (hc : X.calm = true) (hu : X.A.units + 64 < cLine) : CallR X (.builtin "sorted") (fun xs H Q => ∃ d kvs, xs = [V.ref d] ∧ Rd H d (.dT kvs) ∧ (∀ a ∈ kvs, ∀ b ∈ kvs, PySem.W.alike (keysD a.1) (keysD b.1) = true) ∧ (∀ a ∈ kvs, a.1 ≠ [] ∧ a.1.length ≤ 100000) ∧
    ∀ p (ys : List (List Key × Addr)), H p = none → (ys.map (·.1)).Perm (kvs.map (·.1)) → (∀ y ∈ ys, H y.2 = some (.tup (y.1.map kV))) → Q (.ref p) (upd H p (.lst (ys.map fun y => V.ref y.2)))) := by
  intro pins s σ H xs us Q I r h
  obtain ⟨d, kvs, rfl, hd, hal, hne, q⟩ := h
  obtain ⟨u, rfl, rx⟩ := r.one
  cases rx
  obtain ⟨o, es, ep, bs, ho, hx, hdt, hs, l1, z, ik, hi⟩ := dT_items I hd
  have ik' : Paired (fun p b => H b = some (.tup (p.1.map kV))) kvs bs := ik
  let ys : List (List Key × Addr) := (kvs.map (·.1)).zip bs
  have hlen : kvs.length = bs.length := Paired.length ik'
  have ym : ∀ y ∈ ys, (∃ a ∈ kvs, a.1 = y.1) ∧ H y.2 = some (.tup (y.1.map kV)) := by
    have go : ∀ {kvs : List (List Key × V)} {bs : List Addr}, Paired (fun p b => H b = some (.tup (p.1.map kV))) kvs bs → ∀ y ∈ (kvs.map (·.1)).zip bs, (∃ a ∈ kvs, a.1 = y.1) ∧ H y.2 = some (.tup (y.1.map kV)) := by
      intro kvs bs ik
      induction ik with
      | nil => intro y hy; cases hy
      | cons r _ ih =>
        intro y hy
        rcases List.mem_cons.mp (show y ∈ _ :: _ from hy) with e | hy
        · subst e
          exact ⟨⟨_, List.mem_cons_self, rfl⟩, r⟩
        · obtain ⟨⟨a, ha, e⟩, k⟩ := ih y hy
          exact ⟨⟨a, List.mem_cons_of_mem _ ha, e⟩, k⟩
    exact go ik'
  have y1 : ys.map (·.1) = kvs.map (·.1) := by
    rw [List.map_fst_zip]
    rw [List.length_map]; omega
  have y2 : ys.map (·.2) = bs := by
    rw [List.map_snd_zip]
    rw [List.length_map]; omega
  refine PySem.W.rf_sorted_src (enc := fun y : List Key × Addr => keysD y.1) (bs := ys) (R := fun v y => v = Value.ref y.2) (L2.kdl_raw hs hx hdt) (I.ok.hd hc) ho (by omega) (fun acc it => ?_) ?_ ?_ (fun b hb => ?_) fun h' tk out p c k1 k2 k3 k4 => ?_
  · have ea := hi acc it
    rw [ea, ← y2, List.map_map]
    constructor
    · have go : ∀ l : List (List Key × Addr), PySem.W.EachIs (fun v y => v = Value.ref y.2) (l.map (Value.ref ∘ (·.2))) l := fun l => by
        induction l with
        | nil => exact .nil
        | cons y l ih => exact .cons rfl ih
      exact go ys
    · have go : ∀ l : List (List Key × Addr), (∀ y ∈ l, (∃ a ∈ kvs, a.1 = y.1) ∧ H y.2 = some (.tup (y.1.map kV))) → PySem.W.EachIs (fun v y => Reads s.heap v (keysD y.1) []) (l.map (Value.ref ∘ (·.2))) l := fun l => by
        induction l with
        | nil => intro _; exact .nil
        | cons y l ih =>
          intro hl
          obtain ⟨⟨a, ha, e⟩, k⟩ := hl y List.mem_cons_self
          exact .cons (Td.reads I _ (.ref y.2) _ (td_key k (by rw [← e]; exact (hne a ha).2)) rfl) (ih fun z hz => hl z (List.mem_cons_of_mem _ hz))
      exact go ys ym
  · intro d1 h1 d2 h2
    obtain ⟨a1, m1, rfl⟩ := List.mem_map.mp h1
    obtain ⟨a2, m2, rfl⟩ := List.mem_map.mp h2
    obtain ⟨⟨b1, n1, e1⟩, _⟩ := ym a1 m1
    obtain ⟨⟨b2, n2, e2⟩, _⟩ := ym a2 m2
    rw [← e1, ← e2]
    exact hal b1 n1 b2 n2
  · refine .inl fun d1 h1 => ?_
    obtain ⟨a1, m1, rfl⟩ := List.mem_map.mp h1
    obtain ⟨⟨b1, n1, e1⟩, _⟩ := ym a1 m1
    have := (hne b1 n1).1
    rw [e1] at this
    show ∃ x r, PyData.tuple (a1.1.map keyD) = .tuple (x :: r)
    cases hk : a1.1 with
    | nil => exact absurd hk this
    | cons k r => exact ⟨_, _, rfl⟩
  · have : (keysD b.1).depth ≤ 1 := by
      show (PyData.tuple (b.1.map keyD)).depth ≤ 1
      have go : ∀ l : List Key, PyData.depthAll (l.map keyD) = 0 := fun l => by
        induction l with
        | nil => rfl
        | cons k l ih =>
          show max (keyD k).depth (PyData.depthAll (l.map keyD)) = 0
          rw [ih]
          cases k <;> rfl
      show PyData.depthAll (b.1.map keyD) + 1 ≤ 1
      rw [go]
      exact Nat.le_refl _
    omega
  · have I1 : Inv X pins σ H { s with heap := h', toks := tk } := I.kept k1
    have hn : H p = none := I.hok.fresh k2
    have pm : (ys.mergeSort (PySem.W.dataLe false fun y : List Key × Addr => keysD y.1)).Perm ys := List.mergeSort_perm _ _
    have eo : out = (ys.mergeSort (PySem.W.dataLe false fun y : List Key × Addr => keysD y.1)).map fun y => Value.ref y.2 := by
      have go : ∀ {o : List Value} {l : List (List Key × Addr)}, PySem.W.EachIs (fun v y => v = Value.ref y.2) o l → o = l.map fun y => Value.ref y.2 := by
        intro o l h
        induction h with
        | nil => rfl
        | cons r _ ih => rw [r, ih]; rfl
      exact go k4
    generalize hzs : ys.mergeSort (PySem.W.dataLe false fun y : List Key × Addr => keysD y.1) = zs at pm eo
    have rv : Vals (zs.map fun y => V.ref y.2) out := by
      rw [eo]
      have := vals_refs (zs.map (·.2))
      rw [List.map_map, List.map_map] at this
      exact this
    have hz : (zs.map fun y => V.ref y.2).length ≤ sizeLine := by
      rw [List.length_map, pm.length_eq]
      have : ys.length = kvs.length := by rw [← List.length_map (f := (·.1)), y1, List.length_map]
      omega
    refine ⟨.ref p, _, I.laid (t' := tk) (o := .lst (zs.map fun y => V.ref y.2)) k1 k2 ⟨hz, out, c, rv, k3⟩, rfl, q p zs hn ?_ fun y hy => (ym y (pm.mem_iff.mp hy)).2⟩
    rw [← y1]
    exact pm.map _
end
end RFW
end

section
set_option Elab.async false
set_option linter.all false
set_option maxRecDepth 100000
set_option maxHeartbeats 4000000
/-! A dict whose keys are tuples (text, bool), its values numbers: setdefault, sorted(d.values()). -/
namespace RFW
open PySem L2 Evl PyProof.Rows
abbrev SB := Str × Bool
def nk (k : SB) : NestedKey := .tup [.text k.1, .num (if k.2 = true then 1 else 0)]
theorem nk_inj {a b : SB} (h : nk a = nk b) : a = b := by
  obtain ⟨a1, a2⟩ := a
  obtain ⟨b1, b2⟩ := b
  unfold nk at h
  injection h with h
  injection h with h1 h2
  injection h1 with h1
  injection h2 with h2 _
  injection h2 with h2
  dsimp only at h1 h2
  subst h1
  cases a2 <;> cases b2 <;> simp at h2 <;> rfl
abbrev XE := SB × Addr × Int
def xRel (p : XE) (q : NestedKey × Addr × Value) : Prop := q.1 = nk p.1 ∧ q.2.1 = p.2.1 ∧ ∃ t, q.2.2 = Value.int p.2.2 t
def xOk (P : Program) (w : World) (d : Addr) (xs : List XE) (h : Heap) : Prop := (d == sysModules) = false ∧ xs.length ≤ 1000 ∧ ∃ (us : List (NestedKey × Addr × Value)) (o : Obj) (es : Array DictEntry) (ep : Nat), Paired xRel xs us ∧ h.get? d = some o ∧ o.ExactDict ∧ o.data = .dict es ep ∧ es.toList = us.map (entryOfKey (nestedKind P w)) ∧ (us.map (·.1)).Nodup
def xD (P : Program) (w : World) (d : Addr) (xs : List XE) : HO := .ext (xOk P w d xs)
theorem xD_ok {P : Program} {w : World} {H : Hp} {h : Heap} {d : Addr} {xs : List XE} (x : xOk P w d xs h) : ObjOk P w H h d (xD P w d xs) := by
  obtain ⟨x1, x2, us, o, es, ep, r, ho, r2⟩ := id x
  exact ⟨x, ⟨o, ho⟩, fun h1 h2 ⟨y1, y2, us, o, es, ep, r, ho, r2⟩ k => ⟨y1, y2, us, o, es, ep, r, k o ho, r2⟩⟩
theorem pget2 {α β : Type} {F : α → β → Prop} : ∀ {l₁ : List α} {l₂ : List β} {j : Nat} {x : β}, Paired F l₁ l₂ → l₂[j]? = some x → ∃ y, l₁[j]? = some y ∧ F y x
  | _, _, j, x, .nil, h => by simp at h
  | _, _, 0, x, .cons r t, h => by
    simp at h; subst h
    exact ⟨_, rfl, r⟩
  | _, _, j + 1, x, .cons r t, h => by
    obtain ⟨y, h1, h2⟩ := pget2 (j := j) t (by simpa using h)
    exact ⟨y, by simpa using h1, h2⟩
section
variable {X : Cx}
/-- {} for such keys -/
def tDNewX (P : Program) (w : World) : TE := fun _ H Q => ∀ p, H p = none → Q (.ref p) (upd H p (xD P w p []))
theorem pe_dnewX {pos : Pos} : PE X (.Dict [] [] pos) (tDNewX X.prog X.w) := ⟨fun pins s σ H Q I h =>
  wpAny_Dict_empty ⟨.ref s.heap.objs.size, upd H s.heap.objs.size (xD X.prog X.w s.heap.objs.size []), I.laid (t' := s.toks) (fun b o e => Heap.get?_push_of_some _ e) (Nat.le_refl _) (xD_ok ⟨beq_eq_false_iff_ne.mpr (Ne.symm (Nat.ne_of_lt I.big)), Nat.zero_le _, [], _, #[], 0, .nil, Heap.get?_push_size _ rfl, ⟨rfl, rfl, rfl⟩, rfl, rfl, List.nodup_nil⟩), rfl, h _ (I.hok.fresh (Nat.le_refl _))⟩⟩
def xKeys (H : Hp) (xs : List XE) : Prop := ∀ p ∈ xs, H p.2.1 = some (.tup [.str p.1.1, .bl p.1.2])
theorem nk_is {P : Program} {w : World} {pins : List (Addr × Obj)} {σ : L2.St} {H : Hp} {s : Shared} (I : Inv X pins σ H s) {b : Addr} {k : SB} (h : H b = some (.tup [.str k.1, .bl k.2])) : (nestedKind P w).is s.heap (nk k) b := by
  obtain ⟨_, its, rv, o, ho, hc, n, hd⟩ := I.hok _ _ h
  obtain ⟨u1, u2, rfl, r1, r2⟩ := rv.two
  obtain ⟨t, rfl⟩ := r1
  cases r2
  exact ⟨.tup ho hc hd (.cons (.text _ _) (.cons (.bool rfl) .nil)), by simp [nk, NestedKey.depth, NestedKey.depthAll]⟩
theorem xAt {k : SB} : ∀ {xs : List XE} {us : List (NestedKey × Addr × Value)}, Paired xRel xs us → (∀ p ∈ xs, p.1 = k → ∃ q, atKey us (nk k) = some q ∧ ∃ p' ∈ xs, p'.1 = k ∧ ∃ t, q.2 = Value.int p'.2.2 t) ∧ ((∀ p ∈ xs, p.1 ≠ k) → atKey us (nk k) = none)
  | _, _, .nil => ⟨(fun p hp => by cases hp), fun _ => rfl⟩
  | x :: xs, u :: us, .cons r t => by
    obtain ⟨i1, i2⟩ := xAt (k := k) t
    obtain ⟨r1, r2, tk, r3⟩ := r
    by_cases e : x.1 = k
    · have h1 : atKey (u :: us) (nk k) = some u.2 := by
        unfold atKey
        rw [List.find?_cons, r1, e]
        simp
      refine ⟨fun p _ _ => ⟨u.2, h1, x, List.mem_cons_self, e, tk, r3⟩, fun hn => absurd e (hn x List.mem_cons_self)⟩
    · have h1 : atKey (u :: us) (nk k) = atKey us (nk k) := by
        unfold atKey
        rw [List.find?_cons]
        have : ¬ u.1 = nk k := fun z => e (nk_inj (r1.symm.trans z))
        simp [this]
      rw [h1]
      refine ⟨fun p hp hpk => ?_, fun hn => i2 fun p hp => hn p (List.mem_cons_of_mem _ hp)⟩
      rcases List.mem_cons.mp hp with rfl | hp
      · exact absurd hpk e
      · obtain ⟨q, hq, p', hp', hk', ht⟩ := i1 p hp hpk
        exact ⟨q, hq, p', List.mem_cons_of_mem _ hp', hk', ht⟩
/-- found.setdefault(k, n) -/
def rXSet (P : Program) (w : World) : V → List V → Hp → VK → Prop := fun x vs H Q => ∃ (d b : Addr) (xs : List XE) (k : SB) (n : Int), x = .ref d ∧ vs = [.ref b, .int n] ∧ H d = some (xD P w d xs) ∧ xKeys H xs ∧ H b = some (.tup [.str k.1, .bl k.2]) ∧ xs.length < 1000 ∧
  ((∃ p ∈ xs, p.1 = k) → ∀ m, Q (.int m) H) ∧ ((∀ p ∈ xs, p.1 ≠ k) → Q (.int n) (upd H d (xD P w d (xs ++ [(k, b, n)]))))
theorem mt_xset (hu : X.A.units + 16 < cLine) : MtR X "dict.setdefault" (rXSet X.prog X.w) := by
  intro pins s σ H x vs v us Q I rx rv h
  obtain ⟨d, b, xs, k, n, rfl, rfl, hd, hk, hb, hl, q1, q2⟩ := h
  cases rx
  obtain ⟨u1, u2, rfl, r1, r2⟩ := rv.two
  cases r1
  obtain ⟨tn, rfl⟩ := r2
  obtain ⟨⟨lo, z, us', o, es, ep, pr, ho, hx, hdt, he, hn⟩, _, _⟩ := I.hok _ _ hd
  have hlen : us'.length = xs.length := (Paired.length pr).symm
  have kis : ∀ p ∈ us', (nestedKind X.prog X.w).is s.heap p.1 p.2.1 := by
    have go : ∀ {xs : List XE} {us : List (NestedKey × Addr × Value)}, Paired xRel xs us → xKeys H xs → ∀ p ∈ us, (nestedKind X.prog X.w).is s.heap p.1 p.2.1 := by
      intro xs us pr
      induction pr with
      | nil => intro _ p hp; cases hp
      | cons r _ ih =>
        intro hk p hp
        rcases List.mem_cons.mp hp with rfl | hp
        · rw [r.1, r.2.1]
          exact nk_is I (hk _ List.mem_cons_self)
        · exact ih (fun p hp => hk p (List.mem_cons_of_mem _ hp)) p hp
    exact go pr hk
  have hm : s.heap.DictOfH (nestedKind X.prog X.w) d us' := ⟨o, es, ep, ho, hx, hdt, he, kis, hn⟩
  obtain ⟨a1, a2⟩ := xAt (k := k) pr
  refine call_setdefault_heap (hsz := by rw [hlen]; exact small1000 z |> Nat.le_of_lt) (knd := nestedKind X.prog X.w) (show X.A.in1.units + 8 < cLine by show X.A.units + 1 + 8 < cLine; omega) (nk_is I hb) lo hm (fun p hp => ?_) fun hnone h' hm' hs => ?_
  · by_cases hex : ∃ p ∈ xs, p.1 = k
    · obtain ⟨p0, hp0, e0⟩ := hex
      obtain ⟨q, hq, p', hp', hk', t, ht⟩ := a1 p0 hp0 e0
      rw [hp] at hq
      cases hq
      exact ⟨.int p'.2.2, H, I.tok _, ⟨t, ht⟩, q1 ⟨p0, hp0, e0⟩ _⟩
    · rw [a2 fun p hp e => hex ⟨p, hp, e⟩] at hp
      cases hp
  · have hnot : ∀ p ∈ xs, p.1 ≠ k := fun p hp e => by
      obtain ⟨q, hq, _⟩ := a1 p hp e
      rw [hnone] at hq
      cases hq
    rw [storedH_new hnone] at hm'
    obtain ⟨o', es', ep', ho', hx', hdt', he', kis', hn'⟩ := hm'
    refine ⟨.int n, upd H d (xD X.prog X.w d (xs ++ [(k, b, n)])), I.write (e := d) (by rw [hd]; trivial) (.inl rfl) (fun c u hc hu => (hs.2 c hc).trans hu) ⟨o', ho'⟩ (xD_ok ⟨lo, by rw [List.length_append, List.length_singleton]; omega, _, o', es', ep', ?_, ho', hx', hdt', he', hn'⟩), ⟨tn, rfl⟩, q2 hnot⟩
    have app : ∀ {xs : List XE} {us : List (NestedKey × Addr × Value)}, Paired xRel xs us → Paired xRel (xs ++ [(k, b, n)]) (us ++ [(nk k, b, Value.int n tn)]) := by
      intro xs us pr
      induction pr with
      | nil => exact .cons ⟨rfl, rfl, tn, rfl⟩ .nil
      | cons r _ ih => exact .cons r ih
    exact app pr
/-- the view d.values() at p -/
def valsO (p d : Addr) : HO := .ext fun h => h.IsValuesView p d
theorem valsO_ok {P : Program} {w : World} {H : Hp} {h : Heap} {p d : Addr} (e : h.get? p = some { cls := .type "dict_values", data := .fields #[.ref d] }) : ObjOk P w H h p (valsO p d) :=
  ⟨⟨_, e, rfl, rfl⟩, ⟨_, e⟩, fun h1 h2 x k => let ⟨o, ho, r⟩ := x; ⟨o, k o ho, r⟩⟩
def rXVals (P : Program) (w : World) : V → List V → Hp → VK → Prop := fun x vs H Q => ∃ (d : Addr) (xs : List XE), x = .ref d ∧ vs = [] ∧ H d = some (xD P w d xs) ∧ ∀ p, H p = none → Q (.ref p) (upd H p (valsO p d))
theorem mt_xvals : MtR X "dict.values" (rXVals X.prog X.w) := by
  intro pins s σ H x vs v us Q I rx rv h
  obtain ⟨d, xs, rfl, rfl, hd, q⟩ := h
  cases rx
  cases rv
  obtain ⟨⟨lo, z, us', o, es, ep, pr, ho, hx, hdt, he, hn⟩, _, _⟩ := I.hok _ _ hd
  have hr : s.heap.DictRaw d es ep := ⟨o, ho, hx, hdt⟩
  refine call_meetsIn F.slot_dict_values hr.typeIs F.entry_dict_values (F.args_dict_values_1 _) (meets_dict_values_raw d lo) ⟨⟨es, ep, hr⟩, ?_⟩
  exact ⟨.ref s.heap.objs.size, upd H s.heap.objs.size (valsO s.heap.objs.size d), I.laid (t' := s.toks) (fun b u e => Heap.get?_push_of_some _ e) (Nat.le_refl _) (valsO_ok (Heap.get?_push_size _ rfl)), rfl, q _ (I.hok.fresh (Nat.le_refl _))⟩
theorem x_typeIs {pins : List (Addr × Obj)} {σ : L2.St} {H : Hp} {s : Shared} (I : Inv X pins σ H s) {d : Addr} {xs : List XE} (hd : H d = some (xD X.prog X.w d xs)) : s.TypeIs (.ref d) "dict" ∧ ∀ a, Value.ref d = .ref a → ∃ ob, s.heap.get? a = some ob ∧ ob.dict = none := by
  obtain ⟨⟨lo, z, us', o, es, ep, pr, ho, hx, hdt, he, hn⟩, _, _⟩ := I.hok _ _ hd
  refine ⟨⟨o, ho, hx.1⟩, fun a e => ?_⟩
  cases e
  exact ⟨o, ho, hx.2.1⟩
def tXSet (P : Program) (w : World) (to : TE) (t : TA) : TE := fun σ H Q => to σ H fun x H1 => (∃ d xs, x = V.ref d ∧ H1 d = some (xD P w d xs)) ∧ t σ H1 fun vs H2 => rXSet P w x vs H2 Q
def tXVals (P : Program) (w : World) (to : TE) : TE := fun σ H Q => to σ H fun x H1 => rXVals P w x [] H1 Q
variable {o e : Expr} {es : List Expr} {to : TE} {t : TA} {apos cpos : Pos}
theorem pe_xset (hu : X.A.units + 16 < cLine) (ho : PE X o to) (ha : PA X (e :: es) t)
    (hbase : attributeBase o "setdefault" X.env (eval o X.env) = eval o X.env := by rfl)
    (hfew : ((backTo cpos (starEach (e :: es) X.env)).all (fun x => !x.1) && (backToKw cpos (keywordEach [] X.env)).all (fun x => x.1.isSome)
      && decide ((e :: es).length + ([] : List Keyword).length + (if ([] : List Keyword).isEmpty then 0 else 1) < 30)) = true := by rfl)
    (hline : (apos.endLine == cpos.line) = true := by rfl) (hs : starEach (e :: es) X.env = (false, eval e X.env) :: starEach es X.env := by rfl) (hplain : (backTo cpos (starEach es X.env)).any (·.1) = false := by rfl) :
    PE X (.Call (.Attribute o "setdefault" apos) (e :: es) [] cpos) (tXSet X.prog X.w to t) := by
  refine ⟨fun pins s σ H Q I h => ?_⟩
  refine wpAny_Call_method_late hbase hfew hline rfl (thn (ho.run pins s σ H _ I h) fun v s1 ⟨x, H1, I1, r1, ty, q1⟩ => ?_)
  obtain ⟨d, xs, rfl, hd⟩ := ty
  obtain ⟨t1, t2⟩ := x_typeIs I1 hd
  cases r1
  refine ⟨"dict", "dict.setdefault", F.plainAttrs_dict, F.slot_dict_setdefault, F.type_dict_setdefault, t1, t2, ?_⟩
  have hA := ha.run cpos pins s1 σ H1 _ I1 q1
  rw [hs] at hA ⊢
  refine Calls.callWith_builtin (by show (false || (backTo cpos (starEach es X.env)).any (·.1)) = false; rw [hplain] <;> rfl) (Calls.evalArgs_plain ?_)
  exact thn hA fun us s2 ⟨vs, H2, I2, r2, q2⟩ => mt_xset hu pins s2 σ H2 (.ref d) vs (.ref d) us Q I2 rfl r2 q2
theorem pe_xvals (ho : PE X o to) (hbase : attributeBase o "values" X.env (eval o X.env) = eval o X.env := by rfl) (hline : (apos.endLine == cpos.line) = true := by rfl) : PE X (.Call (.Attribute o "values" apos) [] [] cpos) (tXVals X.prog X.w to) := by
  refine ⟨fun pins s σ H Q I h => ?_⟩
  refine wpAny_Call_method0_late hbase hline (thn (ho.run pins s σ H _ I h) fun v s1 ⟨x, H1, I1, r1, q1⟩ => ?_)
  obtain ⟨d, xs, rfl, _, hd, _⟩ := id q1
  obtain ⟨t1, t2⟩ := x_typeIs I1 hd
  cases r1
  exact ⟨"dict", "dict.values", F.plainAttrs_dict, F.slot_dict_values, F.type_dict_values, t1, t2, Calls.callWith_builtin rfl (PySem.evalArgs_none (mt_xvals pins s1 σ H1 (.ref d) [] (.ref d) [] Q I1 rfl .nil q1))⟩
/-- sorted(d.values()) -/
theorem cr_sorted_x (hc : X.calm = true) (hu : X.A.units + 64 < cLine) : CallR X (.builtin "sorted") (fun vs H Q => ∃ p d xs, vs = [V.ref p] ∧ H p = some (valsO p d) ∧ H d = some (xD X.prog X.w d xs) ∧ ∀ l (ns : List Int), H l = none → ns.Perm (xs.map (·.2.2)) → Q (.ref l) (upd H l (.lst (ns.map .int)))) := by
  intro pins s σ H vs us Q I r h
  obtain ⟨p, d, xs, rfl, hp, hd, q⟩ := h
  obtain ⟨u, rfl, rx⟩ := r.one
  cases rx
  obtain ⟨⟨lo, z, us', o, es, ep, pr, ho, hx, hdt, he, hn⟩, _, _⟩ := I.hok _ _ hd
  have hr : s.heap.DictRaw d es ep := ⟨o, ho, hx, hdt⟩
  have hv : s.heap.IsValuesView p d := (I.hok _ _ hp).1
  have l1 : es.size = us'.length := size_of_entries he
  have l2 : us'.length = xs.length := (Paired.length pr).symm
  refine PySem.W.rf_sorted_src (enc := fun n : Int => PyData.int n) (bs := xs.map (·.2.2)) (R := fun v n => ∃ t, v = Value.int n t) (PySem.KdlSrc.rawValues (r := p) (d := d) (es := es) (ep := ep)) (I.ok.hd hc) ⟨hv, hr⟩ (by have := small1000 z; omega) (fun acc it => ?_) ?_ ?_ (fun b hb => by show X.A.units + 2 + 0 < cLine; omega) fun h' tk out l c k1 k2 k3 k4 => ?_
  · have item : ∀ (j : Nat) (v : Value), acc.toList[j]? = some v → ∃ x : XE, xs[j]? = some x ∧ ∃ t, v = Value.int x.2.2 t := fun j v hj => by
      obtain ⟨hi, e⟩ := it.2 j v (by rw [← Array.getElem?_toList]; exact hj)
      have qe := entry_at he j
      rw [Array.getElem?_eq_getElem hi] at qe
      have hju : j < us'.length := by omega
      rw [List.getElem?_eq_getElem hju] at qe
      obtain ⟨x, hx', rx⟩ := pget2 pr (List.getElem?_eq_getElem hju)
      refine ⟨x, hx', ?_⟩
      obtain ⟨_, _, t, ht⟩ := rx
      have e2 : es[j].val = us'[j].2.2 := by
        have := congrArg (fun o => o.map DictEntry.val) qe
        simpa [entryOfKey] using this
      exact ⟨t, by rw [e, e2, ht]⟩
    have al : acc.toList.length = xs.length := by rw [Array.length_toList, it.1]; omega
    have go : ∀ (l : List Value) (ys : List XE), l.length = ys.length → (∀ (j : Nat) (v : Value), l[j]? = some v → ∃ x : XE, ys[j]? = some x ∧ ∃ t, v = Value.int x.2.2 t) → PySem.W.EachIs (fun v n => ∃ t, v = Value.int n t) l (ys.map (·.2.2)) := by
      intro l
      induction l with
      | nil =>
        intro ys hl _
        cases ys with
        | nil => exact .nil
        | cons y ys => simp at hl
      | cons v l ih =>
        intro ys hl hi
        cases ys with
        | nil => simp at hl
        | cons y ys =>
          refine .cons ?_ (ih ys (by simpa using hl) fun j v hj => by simpa using hi (j + 1) v (by simpa using hj))
          obtain ⟨x, hx', ht⟩ := hi 0 v rfl
          simp at hx'
          subst hx'
          exact ht
    have g := go acc.toList xs al item
    exact ⟨g, g.mono fun v n ⟨t, e⟩ => e ▸ Reads.int n t⟩
  · intro d1 h1 d2 h2
    obtain ⟨a1, m1, rfl⟩ := List.mem_map.mp h1
    obtain ⟨a2, m2, rfl⟩ := List.mem_map.mp h2
    rfl
  · refine .inr fun d1 h1 => ?_
    obtain ⟨a1, m1, rfl⟩ := List.mem_map.mp h1
    exact ⟨fun z => (nomatch z), fun xs z => (nomatch z)⟩
  · have hnn : H l = none := I.hok.fresh k2
    have pm : ((xs.map (·.2.2)).mergeSort (PySem.W.dataLe false fun n : Int => PyData.int n)).Perm (xs.map (·.2.2)) := List.mergeSort_perm _ _
    generalize (xs.map (·.2.2)).mergeSort (PySem.W.dataLe false fun n : Int => PyData.int n) = ns at pm k4
    have rv : Vals (ns.map V.int) out := by
      clear q pm k3
      induction k4 with
      | nil => exact .nil
      | cons r _ ih => exact .cons r ih
    refine ⟨.ref l, _, I.laid (t' := tk) (o := .lst (ns.map V.int)) k1 k2 ⟨?_, out, c, rv, k3⟩, rfl, q l ns hnn pm⟩
    rw [List.length_map, pm.length_eq, List.length_map]
    exact Nat.le_of_lt (small1000 z)
end
end RFW
end

section
set_option Elab.async false
set_option linter.all false
set_option maxRecDepth 100000
set_option maxHeartbeats 4000000
/-! set(list of texts), sorted of it: texts of the list, one at least where the list has one. -/
namespace RFW
open PySem L2 Evl PyProof.Rows
/-- a set all of whose n members are texts among xs -/
def SetX (w : World) (h : Heap) (a : Addr) (xs : List Str) (n : Nat) : Prop :=
  ∃ (o : Obj) (es : Array (Int × Value)) (ep : Nat) (t : SetTable), h.get? a = some o ∧ o.ExactSet ∧ o.data = .set es ep t ∧ (∀ e ∈ es.toList, ∃ x u, e.2 = Value.str x u ∧ e.1 = hashStr w x ∧ x ∈ xs) ∧
    es.size < scanBound ∧ t.fits es.size = true ∧ es.size = n ∧ Ris t.place.toList ∧ (w.params.followText "set-order" = true ∨ t.led = true)
section
variable {P : Program} {w : World} {A : Around} {E : Value → Shared → Prop} {s : Shared} {a : Addr} {xs : List Str} {n : Nat}
theorem SetX.at {h h' : Heap} (R : SetX w h a xs n) (k : ∀ o, h.get? a = some o → h'.get? a = some o) : SetX w h' a xs n := by
  obtain ⟨o, es, ep, t, ho, r⟩ := R
  exact ⟨o, es, ep, t, k o ho, r⟩
theorem setX_tail {g : Bool → Sem Unit} (hg : ∀ (b : Bool) (s₁ : Shared) (Q' : Unit → Shared → Prop), Q' () s₁ → wpAny (model P w) A (g b) Q' E s₁)
    {o : Obj} {es es1 : Array (Int × Value)} {ep : Nat} {t t2 : SetTable} (ho : s.heap.get? a = some o) (hex : o.ExactSet) (hd : o.data = .set es ep t)
    (g1 : ∀ e ∈ es1.toList, ∃ x u, e.2 = Value.str x u ∧ e.1 = hashStr w x ∧ x ∈ xs) (hb1 : es1.size < scanBound) (hf2 : t2.fits es1.size = true) (hr : Ris t2.place.toList)
    (hl : w.params.followText "set-order" = true ∨ t2.led = true) {wasDummy : Bool} {R : Option Bool → Shared → Prop} (hR : ∀ h', Heap.SameBut a s.heap h' → SetX w h' a xs es1.size → R (some true) { s with heap := h' }) :
    wpAny (model P w) A (do
        storeSet a es1 t2
        if (!wasDummy && t2.tooFull) = true then do
            g (relayAll t2 es1 (SetTable.grown es1.size)).2.2
            storeSet a (relayAll t2 es1 (SetTable.grown es1.size)).1 (relayAll t2 es1 (SetTable.grown es1.size)).2.1
            pure (some true)
          else pure (some true)) R E s := by
  refine wpAny_bind (wpAny_storeSet_of ho hd ?_ (fits_of_scanBound hb1))
  have ho1 := store_at (es' := es1) (t' := t2) ho hd
  have sb1 := Heap.SameBut.update s.heap a (Obj.putSet es1 t2)
  split
  · have hsz : (relayAll t2 es1 (SetTable.grown es1.size)).1.size = es1.size := by
      rw [← Array.length_toList, (relayAll_perm t2 es1 _).length_eq, Array.length_toList]
    refine wpAny_bind (hg _ _ _ (wpAny_bind (wpAny_storeSet_of ho1 rfl ?_ (fits_of_scanBound (by rw [hsz]; exact hb1)))))
    refine wpAny_pure (hR _ (sb1.trans (Heap.SameBut.update _ a _)) ⟨_, _, _, _, store_at ho1 rfl, hex, rfl, fun e he => g1 e ((relayAll_perm t2 es1 _).mem_iff.mp he), by rw [hsz]; exact hb1, relayAll_fits t2 es1 _, hsz, relayAll_ris t2 es1 _, ?_⟩)
    exact hl.imp id fun z => (relayAll_led t2 es1 _).trans z
  · exact wpAny_pure (hR _ sb1 ⟨_, es1, _, t2, ho1, hex, rfl, g1, hb1, hf2, rfl, hr, hl⟩)
theorem setX_add {x : Str} {tk : Tok} {Q : Bool → Shared → Prop} (R : SetX w s.heap a xs n) (hx : x ∈ xs) (room : n + 1 < scanBound)
    (hQ : ∀ b h' m, Heap.SameBut a s.heap h' → SetX w h' a xs m → 0 < m → m ≤ n + 1 → Q b { s with heap := h' }) :
    wpAny (model P w) A (setAddHashed a (.str x tk) ((PySem.strKind P w).hash x)) Q E s := by
  obtain ⟨o, es, ep, t, ho, hex, hd, g, hb, hf, hn, hr, hl⟩ := R
  have hkey : (PySem.strKind P w).is x (.str x tk) = true := strKind_is P w x tk
  have hsc : (Value.str x tk).scannable = true := rfl
  have hel : ElemsOf (PySem.strKind P w) es.toList := fun e he => by
    obtain ⟨y, u, e1, e2, _⟩ := g e he
    exact ⟨⟨y, by rw [e1]; exact strKind_is P w y u, e2⟩, by rw [e1]; rfl⟩
  unfold setAddHashed setAddHashedIn
  refine wpAny_holding (wpAny_bind (wpAny_setState_of ho hd hf ?_))
  dsimp only
  rw [byScan_of hsc hb hel]
  simp only [↓reduceIte]
  unfold setAddByScan
  refine wpAny_bind (wpAny_bind (wpAny_rule (wpAny_bind (wpAny_setScan_of hkey ho hd hf hel ?_))))
  cases hfi : List.findIdx? (fun e => (PySem.strKind P w).is x e.2) es.toList with
  | some j =>
    dsimp only
    obtain ⟨hj, _, _⟩ := List.findIdx?_eq_some_iff_getElem.mp hfi
    refine wpAny_pure (wpAny_pure (hQ _ s.heap n (Heap.SameBut.refl a s.heap) ⟨o, es, ep, t, ho, hex, hd, g, hb, hf, hn, hr, hl⟩ ?_ (Nat.le_succ _)))
    rw [Array.length_toList] at hj
    omega
  | none =>
    dsimp only
    have hgw : ∀ (b : Bool) {s₁ : Shared} {Q' : Unit → Shared → Prop}, Q' () s₁ → wpAny (model P w) A (match b with | true => rule "set.scan.the-table-gave-way" | false => pure ()) Q' E s₁ :=
      fun b s₁ Q' q => by cases b <;> first | exact wpAny_pure q | exact wpAny_rule q
    have pm := layNew_perm t es ((PySem.strKind P w).hash x) (.str x tk)
    have hf1 := layNew_fits t es ((PySem.strKind P w).hash x) (.str x tk)
    have hr1 := layNew_ris t es ((PySem.strKind P w).hash x) (.str x tk) hr
    have hl1 := layNew_led t es ((PySem.strKind P w).hash x) (.str x tk)
    generalize layNew t es ((PySem.strKind P w).hash x) (.str x tk) = Z at pm hf1 hr1 hl1 ⊢
    obtain ⟨es1, t1, wasDummy, gave⟩ := Z
    dsimp only at pm hf1 hr1 hl1 ⊢
    rw [Array.toList_push] at pm
    have g1 : ∀ e ∈ es1.toList, ∃ y u, e.2 = Value.str y u ∧ e.1 = hashStr w y ∧ y ∈ xs := fun e he => by
      rcases List.mem_append.mp (pm.mem_iff.mp he) with z | z
      · exact g e z
      · rw [List.mem_singleton.mp z]; exact ⟨x, tk, rfl, rfl, hx⟩
    have hsz : es1.size = n + 1 := by rw [← Array.length_toList, pm.length_eq, List.length_append, Array.length_toList, hn]; rfl
    have hb1 : es1.size < scanBound := by rw [hsz]; exact room
    have hled : w.params.followText "set-order" = true ∨ t1.led = true := hl.imp id fun z => hl1.trans z
    refine wpAny_bind (hgw _ ?_)
    split
    · refine wpAny_bind ?_
      rw [hashByValue_scannable 8 hsc]
      refine wpAny_pure ?_
      refine setX_tail (xs := xs) ?_ ho hex hd g1 hb1 ?_ ?_ ?_ ?_
      · intro b s₁ Q' q; cases b <;> first | exact wpAny_pure q | exact wpAny_rule q
      · first | (split <;> first | exact hf1 | exact SetTable.fits_plain_off hf1) | exact hf1
      · first | (split <;> exact hr1) | exact hr1
      · first | (split <;> exact hled) | exact hled
      · intro h' sb r; dsimp only; exact wpAny_pure (hQ true h' _ sb r (by rw [hsz]; exact Nat.succ_pos _) (Nat.le_of_eq hsz))
    · refine wpAny_bind (wpAny_pure ?_)
      simp only [↓reduceIte]
      refine setX_tail (xs := xs) ?_ ho hex hd g1 hb1 hf1 hr1 hled ?_
      · intro b s₁ Q' q; cases b <;> first | exact wpAny_pure q | exact wpAny_rule q
      · intro h' sb r; dsimp only; exact wpAny_pure (hQ true h' _ sb r (by rw [hsz]; exact Nat.succ_pos _) (Nat.le_of_eq hsz))
end
section
variable {P : Program} {w : World} {A : Around} {E : Value → Shared → Prop} {s : Shared}
theorem setX_loop {I : Addr} {fp wr : List Addr} {G : Array GenState → Array GenState → Prop} {n : Nat} {Pv : Nat → Value → Prop} {St : Nat → Shared → Prop} {R : Result → Shared → Prop}
    (W : WalksS P w A.in1 I fp wr G n Pv St) (S : Addr) (hSf : S ∉ fp) (xs : List Str) (hb : n + 1 < scanBound) (hval : ∀ i v, Pv i v → ∃ x t, x ∈ xs ∧ v = .str x t) :
    ∀ (k i : Nat) (s : Shared), n - i = k → i ≤ n → St i s → (∃ c, c ≤ i ∧ (0 < i → 0 < c) ∧ SetX w s.heap S xs c) →
      (∀ s' c, Moved (S :: wr) G s s' → c ≤ n → (0 < n → 0 < c) → SetX w s'.heap S xs c → R (.ok (.ret .none)) s') →
      codeAny (model P w) A (.builtin "set.update.loop" ⟨[.ref S, .ref I], []⟩) R s := by
  have hSw : S ∉ wr := fun h => hSf (W.sub _ h)
  have hsub : ∀ b ∈ wr, b ∈ S :: wr := fun b hb => List.mem_cons_of_mem _ hb
  intro k
  induction k with
  | zero =>
    intro i s hk' hi hst ⟨c, hc, hc0, hS⟩ hR
    obtain rfl : i = n := by omega
    refine codeAny_builtin F.entry_set_update_loop ?_
    rw [Around.under_plainId F.plain_set_update_loop _]
    show wpAny _ A.in1 (pyNext (.ref I) >>= _) _ _ s
    refine wpAny_bind (W.done s _ _ hst fun s' hm => ?_)
    exact wpAny_pure (hR s' c (hm.mono hsub) hc hc0 (hS.at fun o e => hm.heap S o hSw e))
  | succ k ih =>
    intro i s hk' hi hst ⟨c, hc, hc0, hS⟩ hR
    have hlt : i < n := by omega
    refine codeAny_builtin F.entry_set_update_loop ?_
    rw [Around.under_plainId F.plain_set_update_loop _]
    show wpAny _ A.in1 (pyNext (.ref I) >>= _) _ _ s
    refine wpAny_bind (W.item i s _ _ hlt hst fun v s' hP hst' hm => ?_)
    obtain ⟨z, t, hz, rfl⟩ := hval i v hP
    have hS' : SetX w s'.heap S xs c := hS.at fun o e => hm.heap S o hSw e
    show wpAny _ A.in1 (holding [Value.str z t] (setAdd S (.str z t)) >>= _) _ _ s'
    refine wpAny_bind (wpAny_holding ?_)
    unfold setAdd
    refine wpAny_holding (wpAny_bind ((PySem.strKind P w).pyHash (k := z) (strKind_is _ _ _ _) ?_))
    refine setX_add (s := { s' with toks := s'.toks + 1 }) hS' hz (by omega) fun b h' m hsb hS2 hm0 hm1 => ?_
    refine wpAny_pure ⟨plainId_quiet F.plain_set_update_loop _, ih (i + 1) _ (by omega) hlt (W.frame _ s' _ _ hst' (Nat.le_succ _) fun b hb o e => ?_) ⟨m, by omega, fun _ => hm0, hS2⟩ fun s'' c2 hm'' hc'' hc2 hS'' => ?_⟩
    · rw [hsb.2 b (fun h : b = S => hSf (by rw [← h]; exact hb))]; exact e
    · refine hR s'' c2 (Moved.trans W.gtrans ((hm.mono hsub).then_heap (Nat.le_succ _) fun b o hb e => ?_) hm'') hc'' hc2 hS''
      rw [hsb.2 b (fun h : b = S => hb (by rw [h]; exact List.mem_cons_self))]; exact e
abbrev setObj0 (w : World) : Obj := { cls := .type "set", dict := none, data := .set #[] 0 (.fresh 0 0 (!w.params.followText "set-order")) }
theorem setX_fresh {h : Heap} {a : Addr} {xs : List Str} (ho : h.get? a = some (setObj0 w)) : SetX w h a xs 0 :=
  ⟨_, #[], 0, _, ho, ⟨rfl, rfl, rfl⟩, rfl, (fun e he => by simp at he), (by decide), (by rfl), rfl, List.Pairwise.nil, by
    show _ ∨ (!w.params.followText "set-order") = true
    cases w.params.followText "set-order" <;> simp⟩
set_option maxHeartbeats 3200000 in
theorem call_setX {l : Addr} {items : Array Value} (xs : List Str) {Q : Value → Shared → Prop} (hh : A.handled = none) (hl : s.heap.IsList l items) (hb : items.size + 1 < scanBound) (hval : ∀ (i : Nat) (v : Value), items[i]? = some v → ∃ x t, x ∈ xs ∧ v = Value.str x t)
    (h : ∀ (h' : Heap) (tk c : Nat), SetX w h' s.heap.objs.size xs c → c ≤ items.size → (0 < items.size → 0 < c) → (∀ b o, s.heap.get? b = some o → h'.get? b = some o) → Q (.ref s.heap.objs.size) { s with heap := h', toks := tk }) :
    wpAny (model P w) A (call (.type "set") [.ref l]) Q E s := by
  obtain ⟨c, tl, hmro⟩ := F.called_set.mro
  have hmade := F.called_set.made
  have hsub := F.called_set.sub
  refine wpAny_call (codeAny_of_tree ?_)
  show wpAny _ _ (callAny (.type "set") _) _ _ _
  refine wpAny_pure ⟨Code.quiet_builtin _ (by decide +kernel), codeAny_builtin F.entry_type_call ?_⟩
  rw [Around.under_plain (weight_type_call_type "set" [.ref l] []) rfl]
  have h1 := F.called_set.notType
  have h2 := F.called_set.canCreate
  have hct := F.typeCall_set_1 (.ref l)
  repeat (any_goals (first | assumption | wp_step))
  refine codeAny_mono (code_set_led1 (.ref l) (E := E) (Q₁ := fun obj s₁ => obj = .ref s.heap.objs.size ∧ s₁ = { s with heap := s.heap.push (setObj0 w) }) ⟨rfl, rfl⟩) fun r s₁ hr => ?_
  cases r with
  | error e => exact hr
  | ok fl =>
    cases fl with
    | ret obj =>
      obtain ⟨rfl, rfl⟩ := hr
      have hS : (s.heap.push (setObj0 w)).get? s.heap.objs.size = some (setObj0 w) := Heap.get?_push_size _ rfl
      have hT : Shared.TypeIs { s with heap := s.heap.push (setObj0 w) } (.ref s.heap.objs.size) "set" := ⟨_, hS, rfl⟩
      have hli := F.called_set.init.lookup
      have hbi := F.called_set.init.bind (.ref s.heap.objs.size)
      repeat (any_goals (first | assumption | wp_step))
      refine codeAny_mono (codeAny_call_builtin (R := wants (fun r s₂ => r = .none ∧ ∃ h' tk c, s₂ = { s with heap := h', toks := tk } ∧ SetX w h' s.heap.objs.size xs c ∧ c ≤ items.size ∧ (0 < items.size → 0 < c) ∧
          (∀ b o, s.heap.get? b = some o → h'.get? b = some o)) E) F.called_set.init.plain F.entry_set_init (check_set_init_1 hT ?_)) fun r₂ s₂ hr₂ => ?_
      · obtain ⟨⟨ocls, odict, odata, oslots⟩, hol, hcl, nl, hdl⟩ := hl
        simp only at hcl hdl
        subst hcl; subst hdl
        have hol' : (s.heap.push (setObj0 w)).get? l = some { cls := .type "list", dict := odict, data := .seq items nl, slots := oslots } := Heap.get?_push_of_some _ hol
        have hsls := F.sub_list_set
        have hslf := F.sub_list_frozenset
        have hne : (Value.type "list" == Value.type "dict") = false := by decide
        have hl1 : (s.heap.push (setObj0 w)).IsList l items := ⟨_, hol', rfl, nl, rfl⟩
        unfold Builtin.«set.__init__» noKeywords Builtin.Frozenset.updateFrom
        generalize hPI : pyIter = PI
        wp_walk
        subst hPI
        refine wpAny_pyIter_list hl1 (wpAny_bind (wpAny_runValue ?_))
        have hlS : l < s.heap.objs.size := Heap.lt_size hol
        have hh3 : A.in1.in1.in1.handled = none := by simp [hh]
        have hz : (s.heap.push (setObj0 w)).objs.size = s.heap.objs.size + 1 := Heap.size_push ..
        have hneI : l ≠ (s.heap.push (setObj0 w)).objs.size := by rw [hz]; exact Nat.ne_of_lt (Nat.lt_succ_of_lt hlS)
        have hSf : s.heap.objs.size ∉ [(s.heap.push (setObj0 w)).objs.size, l] := by
          rw [hz]; simp only [List.mem_cons, List.mem_singleton, List.not_mem_nil, or_false, not_or]
          exact ⟨Nat.ne_of_lt (Nat.lt_succ_self _), Nat.ne_of_gt hlS⟩
        refine setX_loop ((Walks.list hh3 _ l hneI items).toS) s.heap.objs.size hSf xs hb hval (items.size - 0) 0 _ (by omega) (Nat.zero_le _) ⟨⟨_, Heap.get?_push_size _ rfl, rfl, rfl⟩, (hl1.push _)⟩
          ⟨0, Nat.le_refl 0, (fun z => absurd z (Nat.lt_irrefl _)), setX_fresh (Heap.get?_push_of_some _ hS)⟩ ?hR
        intro s' c' hm hc' hc0 hS'
        obtain ⟨h', g2, d', tk', os'⟩ := s'
        have eg : g2 = s.gens := hm.gens
        have ed : d' = s.drawn := hm.drawn
        have eo : os' = s.os := hm.os
        subst eg; subst ed; subst eo
        refine wpAny_pure ?_
        show wpAny _ _ (ret Value.none) _ _ _
        refine wpAny_pure ⟨rfl, h', tk', c', rfl, hS', hc', hc0, fun b o e => ?_⟩
        have hb0 : b < s.heap.objs.size := Heap.lt_size e
        refine hm.heap b o (fun hmem => ?_) (Heap.get?_push_of_some _ (Heap.get?_push_of_some _ e))
        rcases List.mem_cons.mp hmem with z | z
        · exact absurd hb0 (by rw [z]; exact Nat.lt_irrefl _)
        · exact absurd hb0 (by rw [List.mem_singleton.mp z, hz]; exact Nat.not_lt.mpr (Nat.le_succ _))
      · cases r₂ with
        | error e => exact hr₂
        | ok fl₂ =>
          cases fl₂ with
          | ret r =>
            obtain ⟨rfl, h', tk, c, rfl, hS', hc', hc0, hk'⟩ := hr₂
            repeat (any_goals (first | assumption | wp_step))
            exact h _ _ _ hS' hc' hc0 hk'
          | _ => exact hr₂.elim
    | _ => exact hr.elim
/-- sorted of such a set -/
theorem sorted_setX {a : Addr} {xs : List Str} {n : Nat} {Q : Value → Shared → Prop} (R : SetX w s.heap a xs n) (hh : A.handled = none) (hu : A.units + 8 < cLine)
    (hQ : ∀ (s' : Shared) (p : Addr) (out : List Value) (c : Nat), (∀ b o, s.heap.get? b = some o → s'.heap.get? b = some o) → s'.gens = s.gens → s'.os = s.os → s.heap.objs.size ≤ p → s'.heap.get? p = some (seqObj "list" out.toArray c) →
      out.length = n → (∀ v ∈ out, ∃ x t, x ∈ xs ∧ v = Value.str x t) → Q (.ref p) s') :
    wpAny (model P w) A (call (.builtin "sorted") [.ref a]) Q E s := by
  obtain ⟨o, es, ep, t, ho, hex, hd, g, hb, hf, hn, hr, hl⟩ := R
  refine Calls.call_function_entry kind_sorted plain_sorted entry_sorted (args_sorted1 _) ?_
  unfold Builtin.«sorted»
  refine wpAny_bind (m := checkCount "sorted" 1 1 _) (wpAny_pure ?_)
  refine wpAny_bind (collect_set (A := A.in1) hh ⟨o, ho, hex.1, hd⟩ hf hb hr hl fun s1 vs k1 hz g1 o1 pm => ?_)
  have hvl : vs.length = n := by rw [pm.length_eq, List.length_map, Array.length_toList]; exact hn
  have hstr : ∀ v ∈ vs, ∃ x t, x ∈ xs ∧ v = Value.str x t := fun v hv => by
    obtain ⟨e, he, q⟩ := List.mem_map.mp (pm.mem_iff.mp hv)
    obtain ⟨x, u, h1, _, h2⟩ := g e he
    exact ⟨x, u, h2, by rw [← q]; exact h1⟩
  refine wpAny_bind (wpAny_newList ?_ (by rw [hvl, ← hn]; exact fits_of_scanBound hb))
  have hoL : (s1.heap.push (seqObj "list" vs.toArray 0)).get? s1.heap.objs.size = some (seqObj "list" vs.toArray 0) := Heap.get?_push_size _ rfl
  -- the values beside their texts
  obtain ⟨ys, hys, hyx⟩ : ∃ ys : List Str, PySem.W.EachIs (fun v x => ∃ t, v = Value.str x t) vs ys ∧ ∀ y ∈ ys, y ∈ xs := by
    have go : ∀ l : List Value, (∀ v ∈ l, ∃ x t, x ∈ xs ∧ v = Value.str x t) → ∃ ys : List Str, PySem.W.EachIs (fun v x => ∃ t, v = Value.str x t) l ys ∧ ∀ y ∈ ys, y ∈ xs := fun l => by
      induction l with
      | nil => intro _; exact ⟨[], .nil, fun y hy => by cases hy⟩
      | cons v l ih =>
        intro hv
        obtain ⟨x, t, hx, e⟩ := hv v List.mem_cons_self
        obtain ⟨ys, h1, h2⟩ := ih fun u hu => hv u (List.mem_cons_of_mem _ hu)
        refine ⟨x :: ys, .cons ⟨t, e⟩ h1, fun y hy => ?_⟩
        rcases List.mem_cons.mp hy with z | z
        · rw [z]; exact hx
        · exact h2 y z
    exact go vs hstr
  refine wpAny_bind (wpAny_holding (PySem.W.list_sort_data (s := { s1 with heap := s1.heap.push (seqObj "list" vs.toArray 0) }) (enc := fun x : Str => PyData.str x) (R := fun v x => ∃ t, v = Value.str x t) hoL hys (hys.mono fun v x ⟨t, e⟩ => ⟨[], e ▸ Reads.str x t, List.not_mem_nil⟩)
    (fun d1 h1 d2 h2 => by
      obtain ⟨a1, _, rfl⟩ := List.mem_map.mp h1
      obtain ⟨a2, _, rfl⟩ := List.mem_map.mp h2
      rfl) (.inr fun d1 h1 => by
      obtain ⟨a1, _, rfl⟩ := List.mem_map.mp h1
      exact ⟨fun z => (nomatch z), fun xs z => (nomatch z)⟩) (by rw [← hys.length, hvl, ← hn]; exact fits_of_scanBound hb) (fun b _ => by show A.units + 1 + 1 + 0 < cLine; omega) fun out hol he => ?_))
  obtain ⟨c, hc⟩ := sortedHeap_at (vs := vs) (out := out.toArray) hoL
  have pms : (ys.mergeSort (PySem.W.dataLe false fun x : Str => PyData.str x)).Perm ys := List.mergeSort_perm _ _
  refine wpAny_pure ⟨_, rfl, hQ _ s1.heap.objs.size out c (fun b u e => ?_) g1 o1 hz hc (by rw [hol, ← hys.length, hvl]) fun v hv => ?_⟩
  · have q := k1 b u e
    have hlt := Heap.lt_size q
    exact (sortedHeap_old (Nat.ne_of_lt hlt) (by rw [size_push']; exact Nat.lt_succ_of_lt hlt)).trans (Heap.get?_push_of_some _ q)
  · have go : ∀ {o : List Value} {l : List Str}, PySem.W.EachIs (fun v x => ∃ t, v = Value.str x t) o l → (∀ y ∈ l, y ∈ xs) → ∀ v ∈ o, ∃ x t, x ∈ xs ∧ v = Value.str x t := by
      intro o l h
      induction h with
      | nil => intro _ v hv; cases hv
      | cons r _ ih =>
        intro hl v hv
        rcases List.mem_cons.mp hv with z | z
        · obtain ⟨t, e⟩ := r
          exact ⟨_, t, hl _ List.mem_cons_self, by rw [z]; exact e⟩
        · exact ih (fun y hy => hl y (List.mem_cons_of_mem _ hy)) v z
    exact go he (fun y hy => hyx y (pms.mem_iff.mp hy)) v hv
end
section
variable {X : Cx}
def setXO (w : World) (a : Addr) (xs : List Str) (n : Nat) : HO := .ext fun h => SetX w h a xs n
theorem setXO_ok {w : World} {P : Program} {H : Hp} {h : Heap} {a : Addr} {xs : List Str} {n : Nat} (R : SetX w h a xs n) : ObjOk P w H h a (setXO w a xs n) := by
  have ⟨o, _, _, _, ho, _⟩ := R
  exact ⟨R, ⟨o, ho⟩, fun h1 h2 p k => p.at k⟩
/-- set(list of texts) -/
theorem cr_setX (hc : X.calm = true) : CallR X (.type "set") (fun vs H Q => ∃ l xs, vs = [V.ref l] ∧ H l = some (.lst (xs.map .str)) ∧ xs.length ≤ 1000 ∧ ∀ p n, H p = none → n ≤ xs.length → (0 < xs.length → 0 < n) → Q (.ref p) (upd H p (setXO X.w p xs n))) := by
  intro pins s σ H vs us Q I r h
  obtain ⟨l, xs, rfl, hl, hz, q⟩ := h
  obtain ⟨u, rfl, rx⟩ := r.one
  cases rx
  obtain ⟨its, rv, pl, _⟩ := I.list (SqL.of hl)
  have hlen : its.toArray.size = xs.length := by rw [List.size_toArray, ← rv.length, List.length_map]
  refine call_setX xs (I.ok.hd hc) pl.isList (by rw [hlen]; show xs.length + 1 < 4096; omega) (fun i v hv => ?_) fun h' tk c h1 h2 h3 h4 => ?_
  · have hv2 : its[i]? = some v := by simpa using hv
    have hi : i < xs.length := by rw [← hlen, List.size_toArray]; exact (List.getElem?_eq_some_iff.mp hv2).1
    obtain ⟨u', hu3, r3⟩ := rv.get (show (xs.map V.str)[i]? = some (V.str xs[i]) by rw [List.getElem?_map, List.getElem?_eq_getElem hi]; rfl)
    rw [hv2] at hu3
    cases hu3
    obtain ⟨t, rfl⟩ := r3
    exact ⟨_, t, List.getElem_mem hi, rfl⟩
  · have hn : H s.heap.objs.size = none := I.hok.fresh (Nat.le_refl _)
    exact ⟨.ref s.heap.objs.size, _, I.laid (t' := tk) (o := setXO X.w s.heap.objs.size xs c) h4 (Nat.le_refl _) (setXO_ok h1), rfl, q _ c hn (by rw [← hlen]; exact h2) (by rw [← hlen]; exact h3)⟩
/-- sorted(such a set) -/
theorem cr_sorted_setX (hc : X.calm = true) (hu : X.A.units + 64 < cLine) : CallR X (.builtin "sorted") (fun vs H Q => ∃ p xs n, vs = [V.ref p] ∧ H p = some (setXO X.w p xs n) ∧ n ≤ 1000 ∧ ∀ l (ys : List Str), H l = none → ys.length = n → (∀ y ∈ ys, y ∈ xs) → Q (.ref l) (upd H l (.lst (ys.map .str)))) := by
  intro pins s σ H vs us Q I r h
  obtain ⟨p, xs, n, rfl, hp, hz, q⟩ := h
  obtain ⟨u, rfl, rx⟩ := r.one
  cases rx
  have R : SetX X.w s.heap p xs n := (I.hok _ _ hp).1
  refine sorted_setX R (I.ok.hd hc) (by omega) fun s' l out c k1 g1 o1 hl hout hlen hstr => ?_
  have hn : H l = none := I.hok.fresh hl
  obtain ⟨ys, rv, hys⟩ : ∃ ys : List Str, Vals (ys.map V.str) out ∧ ∀ y ∈ ys, y ∈ xs := by
    clear hout hlen
    induction out with
    | nil => exact ⟨[], .nil, fun y hy => by cases hy⟩
    | cons v l ih =>
      obtain ⟨x, t, hx, e⟩ := hstr v List.mem_cons_self
      obtain ⟨ys, h1, h2⟩ := ih fun u hu => hstr u (List.mem_cons_of_mem _ hu)
      refine ⟨x :: ys, .cons ⟨t, e⟩ h1, fun y hy => ?_⟩
      rcases List.mem_cons.mp hy with z | z
      · rw [z]; exact hx
      · exact h2 y z
  have hyl : ys.length = n := by rw [← hlen, ← rv.length, List.length_map]
  have I1 : Inv X pins σ (upd H l (.lst (ys.map V.str))) s' := by
    refine I.call' (ch := []) o1 (Un.laid k1 hl hn) (I.hok.laid k1 hl ⟨?_, out, c, rv, hout⟩) (by rw [g1]; exact I.bare) (fun _ z => nomatch z)
    rw [List.length_map, hyl]
    exact Nat.le_trans hz (by decide)
  exact ⟨.ref l, _, I1, rfl, q l ys hn hyl hys⟩
end
end RFW
end

section
set_option Elab.async false
set_option linter.all false
set_option maxRecDepth 100000
set_option maxHeartbeats 4000000
/-! x in t of tuples, < of data, o.f as one of several targets. -/
namespace RFW
open PySem L2 Evl PyProof.Rows
section
variable {X : Cx}
def rInT (K : PySem.W.Frag) (neg : Bool) : R2 := fun x y H Q => ∃ d ds, Td H x d ∧ Td H y (.tuple ds) ∧ SeqAt.shaped d = true ∧ SeqAt.shaped (.tuple ds) = true ∧ Q (.bl (if neg then !ds.any fun z => PyData.eqv z d else ds.any fun z => PyData.eqv z d)) H
theorem roomT {A : Around} {d : PyData} {ds : List PyData} (h : SeqAt.shaped d = true) (hu : A.units + 65 < cLine) : A.units + 1 + min (PyData.depthAll ds) d.depth < cLine := by
  have h1 := SeqAt.depth_of_shaped h
  have h2 : min (PyData.depthAll ds) d.depth ≤ d.depth := Nat.min_le_right _ _
  omega
theorem op_inTd (hu : X.A.units + 65 < cLine) : OpR X (compareOp .In) (rInT X.K false) := by
  intro pins s σ H x y v u Q I rx ry h
  obtain ⟨d, ds, hd, he, sd, se, q⟩ := h
  exact SeqAt.in_tuple_reads (Td.reads I _ y u he ry) (Td.reads I d x v hd rx) (SeqAt.canLay_of_shaped se) (SeqAt.canLay_of_shaped sd) (roomT sd hu) ⟨.bl _, H, I, rfl, q⟩
theorem op_notInTd (hu : X.A.units + 65 < cLine) : OpR X (compareOp .NotIn) (rInT X.K true) := by
  intro pins s σ H x y v u Q I rx ry h
  obtain ⟨d, ds, hd, he, sd, se, q⟩ := h
  exact SeqAt.notIn_tuple_reads (Td.reads I _ y u he ry) (Td.reads I d x v hd rx) (SeqAt.canLay_of_shaped se) (SeqAt.canLay_of_shaped sd) (roomT sd hu) ⟨.bl _, H, I, rfl, q⟩
/-- x < y of data that are alike -/
def rLtD : R2 := fun x y H Q => ∃ d e, Td H x d ∧ Td H y e ∧ PySem.W.alike d e = true ∧ d ≠ .none ∧ d.depth ≤ 32 ∧ Q (.bl (PySem.W.dataLt d e)) H
theorem op_ltD (hu : X.A.units + 64 < cLine) : OpR X (compareOp .Lt) rLtD := by
  intro pins s σ H x y v u Q I rx ry h
  obtain ⟨d, e, hd, he, ha, hn, hz, q⟩ := h
  refine PySem.W.rcLt_alike d e X.A s v u [] [] (Td.reads I d x v hd rx) (Td.reads I e y u he ry) ha hn ?_ X.prog X.w _ _ ⟨.bl _, H, I, rfl, q⟩
  have : min d.depth e.depth ≤ d.depth := Nat.min_le_left _ _
  omega
/-- o.f = v, a target -/
def gFld (K : PySem.W.Frag) (ta : TE) (f : Str) : TG := fun v σ H Q => ta σ H fun x H2 => ∃ a C dx fs, x = .ref a ∧ H2 a = some (.ins C dx fs) ∧ Cls K C ∧ NoAttr K C f ∧ fs.length < 1000 ∧ Q σ (upd H2 a (.ins C dx (putF f v fs)))
theorem pg_fld {o : Expr} {f : Str} {pos : Pos} {ta : TE} (ho : PE X o ta) : PG X (.Attribute o f pos) (gFld X.K ta f) := by
  refine ⟨fun pins s σ H v u Q I r h => ?_⟩
  rw [assign_Attribute]
  refine wpAny_bind (wpAny_holding (thn (ho.run pins s σ H _ I h) fun ov s1 ⟨x, H1, I1, r1, a, C, dx, fs, ex, ea, c, n, l, q⟩ => ?_))
  subst ex
  obtain rfl : ov = Value.ref a := r1
  refine wpAny_bind (wpAny_standAt (wpAny_bind (wpAny_holding (setattr_ok I1 ea c n l r fun s3 I3 => ?_))))
  exact wpAny_release ⟨σ, _, I3, q⟩
end
section
variable {K : PySem.W.Frag} {σ : L2.St} {H H' : Hp} {ta tb te : TE} {d d' : PyData} {ds es : List PyData}
theorem evd_inT {neg : Bool} (ha : EvD ta σ H d) (hb : EvD tb σ H (.tuple ds)) (sd : SeqAt.shaped d = true) (se : SeqAt.shaped (.tuple ds) = true) : EvD (tOp (rInT K neg) ta tb) σ H (.bool (if neg then !ds.any fun z => PyData.eqv z d else ds.any fun z => PyData.eqv z d)) :=
  evd_op ha hb fun x y H1 _ r1 r2 Q q => ⟨d, ds, r1, r2, sd, se, q _ H1 (Ex.refl H1) (.bl _)⟩
theorem evd_ltD (ha : EvD ta σ H d) (hb : EvD tb σ H d') (h1 : PySem.W.alike d d' = true) (h2 : d ≠ .none) (h3 : d.depth ≤ 32) : EvD (tOp rLtD ta tb) σ H (.bool (PySem.W.dataLt d d')) :=
  evd_op ha hb fun x y H1 _ r1 r2 Q q => ⟨d, d', r1, r2, h1, h2, h3, q _ H1 (Ex.refl H1) (.bl _)⟩
end
end RFW
end

section
set_option Elab.async false
set_option linter.all false
set_option maxRecDepth 100000
set_option maxHeartbeats 4000000
/-! Statements, loops, comprehensions read over data. -/
namespace RFW
open PySem L2 Evl
section
variable {K : PySem.W.Frag} {σ : L2.St} {H H' : Hp} {ta tb te : TE} {tA : TA} {t u : TT} {d d1 d2 d3 d4 : PyData} {ds es out : List PyData} {R R' : Rel} {D : Ends} {tu tw tz : TS} {g : TG}
/-! ### statements -/
theorem s_retR (h : EvR te σ H R) (k : ∀ v H1, Ex H H1 → R v H1 → D.rt v H1) : tRet te D σ H := h H (Ex.refl H) _ k
theorem s_asgR {i : Nat} (h : EvR te σ H R) (k : ∀ v H1, Ex H H1 → R v H1 → D.nx (σ.set i (some v)) H1) : tAsg te (gName i) D σ H := h H (Ex.refl H) _ k
theorem q_asgR {i : Nat} (h : EvR te σ H R) (k : ∀ v H1, Ex H H1 → R v H1 → tz D (σ.set i (some v)) H1) : tSeq (tAsg te (gName i)) tz D σ H := s_asgR (D := { D with nx := tz D }) h k
theorem s_tup2 {i j : Nat} (h : EvD te σ H (.tuple [d1, d2])) (k : ∀ v1 v2 H1, Ex H H1 → Td H1 v1 d1 → Td H1 v2 d2 → D.nx ((σ.set i (some v1)).set j (some v2)) H1) : tAsg te (gTup K 2 (gCons (gName i) (gCons (gName j) gNil))) D σ H :=
  h H (Ex.refl H) _ fun v H1 e r => by
    obtain ⟨a, xs, rfl, hx, hz, r⟩ := r.tup_inv
    obtain ⟨v1, v2, rfl, r1, r2⟩ := r.inv2
    exact ⟨a, _, rfl, SqT.of hx, rfl, _, _, rfl, _, _, rfl, rfl, k v1 v2 H1 e r1 r2⟩
theorem q_tup2 {i j : Nat} (h : EvD te σ H (.tuple [d1, d2])) (k : ∀ v1 v2 H1, Ex H H1 → Td H1 v1 d1 → Td H1 v2 d2 → tz D ((σ.set i (some v1)).set j (some v2)) H1) : tSeq (tAsg te (gTup K 2 (gCons (gName i) (gCons (gName j) gNil)))) tz D σ H := s_tup2 (D := { D with nx := tz D }) h k
theorem s_tup3 {i j l : Nat} (h : EvD te σ H (.tuple [d1, d2, d3])) (k : ∀ v1 v2 v3 H1, Ex H H1 → Td H1 v1 d1 → Td H1 v2 d2 → Td H1 v3 d3 → D.nx (((σ.set i (some v1)).set j (some v2)).set l (some v3)) H1) : tAsg te (gTup K 3 (gCons (gName i) (gCons (gName j) (gCons (gName l) gNil)))) D σ H :=
  h H (Ex.refl H) _ fun v H1 e r => by
    obtain ⟨a, xs, rfl, hx, hz, r⟩ := r.tup_inv
    obtain ⟨v1, v2, v3, rfl, r1, r2, r3⟩ := r.inv3
    exact ⟨a, _, rfl, SqT.of hx, rfl, _, _, rfl, _, _, rfl, _, _, rfl, rfl, k v1 v2 v3 H1 e r1 r2 r3⟩
theorem q_tup3 {i j l : Nat} (h : EvD te σ H (.tuple [d1, d2, d3])) (k : ∀ v1 v2 v3 H1, Ex H H1 → Td H1 v1 d1 → Td H1 v2 d2 → Td H1 v3 d3 → tz D (((σ.set i (some v1)).set j (some v2)).set l (some v3)) H1) : tSeq (tAsg te (gTup K 3 (gCons (gName i) (gCons (gName j) (gCons (gName l) gNil))))) tz D σ H := s_tup3 (D := { D with nx := tz D }) h k
theorem q_par {i j : Nat} (h : EvDs tA σ H [d1, d2]) (k : ∀ v1 v2 H1, Ex H H1 → Td H1 v1 d1 → Td H1 v2 d2 → tz D ((σ.set i (some v1)).set j (some v2)) H1) : tSeq (tPar i j tA) tz D σ H :=
  h H (Ex.refl H) _ fun vs H1 e r => by
    obtain ⟨v1, v2, rfl, r1, r2⟩ := r.inv2
    exact ⟨v1, v2, rfl, k v1 v2 H1 e r1 r2⟩

/-! ### a new list of data -/
def EvLd (te : TE) (σ : L2.St) (H : Hp) (ds : List PyData) : Prop := ∀ H1, Ex H H1 → ∀ Q : VK, (∀ p vs H2, H1 p = none → Ex H1 H2 → H2 p = some (.lst vs) → vs.length ≤ 100000 → TdAll H2 vs ds → Q (.ref p) H2) → te σ H1 Q
theorem EvLd.is (h : EvLd te σ H ds) (e : ds = es) : EvLd te σ H es := e ▸ h
theorem EvLd.mono (e : Ex H H') (h : EvLd te σ H ds) : EvLd te σ H' ds := fun H1 a Q q => h H1 (e.trans a) Q q
theorem EvLd.ld (h : EvLd te σ H ds) : EvR te σ H (Ld ds) := fun H1 e Q q => h H1 e Q fun p vs H2 _ e2 h2 hz r => q _ H2 e2 ⟨p, vs, rfl, h2, hz, r⟩
theorem tdAll_bools {H : Hp} : ∀ {bs : List Bool} {vs : List V}, TdAll H vs (bs.map .bool) → vs = bs.map .bl
  | [], _, h => by cases h; rfl
  | b :: r, _, h => by
    cases h with
    | cons h1 h2 => rw [h1.bl_inv, tdAll_bools h2]; rfl
theorem evd_any {bs : List Bool} (h : EvR te σ H (Ld (bs.map .bool))) : EvD (tCB (rAny K) (tCons te tNil)) σ H (.bool (bs.any id)) := fun H1 e Q q => h H1 e _ fun v H2 e2 ⟨p, vs, ev, hp, _, r⟩ => by
  subst ev
  rw [tdAll_bools r] at hp
  exact ⟨p, bs, rfl, SqL.of hp, q _ H2 e2 (.bl _)⟩
theorem evd_all {bs : List Bool} (h : EvR te σ H (Ld (bs.map .bool))) : EvD (tCB (rAll K) (tCons te tNil)) σ H (.bool (bs.all id)) := fun H1 e Q q => h H1 e _ fun v H2 e2 ⟨p, vs, ev, hp, _, r⟩ => by
  subst ev
  rw [tdAll_bools r] at hp
  exact ⟨p, bs, rfl, SqL.of hp, q _ H2 e2 (.bl _)⟩
theorem evd_lenL (h : EvR te σ H (Ld ds)) : EvD (tCB (rLenS K) (tCons te tNil)) σ H (.int (ds.length : Nat)) := fun H1 e Q q => h H1 e _ fun v H2 e2 ⟨p, vs, ev, hp, _, r⟩ => by
  subst ev
  exact ⟨p, vs, rfl, .inl (SqL.of hp), q _ H2 e2 (by rw [r.length]; exact .int _)⟩
/-- tuple(xs) -/
def rTupOf (K : PySem.W.Frag) : List V → Hp → VK → Prop := fun xs H Q => ∃ p ys, xs = [.ref p] ∧ ((SqL K H p ys ∧ ∀ l, H l = none → Q (.ref l) (upd H l (.tup ys))) ∨ (SqT K H p ys ∧ Q (.ref p) H))
theorem evd_tupL (h : EvR te σ H (Ld ds)) : EvD (tCB (rTupOf K) (tCons te tNil)) σ H (.tuple ds) := fun H1 e Q q => h H1 e _ fun v H2 e2 ⟨p, vs, ev, hp, hz, r⟩ => by
  subst ev
  exact ⟨p, vs, rfl, .inl ⟨SqL.of hp, fun l hl => q _ _ (e2.trans (Ex.new hl)) (.tup upd_same hz (r.ex (Ex.new hl)))⟩⟩
theorem evld_lst (h : EvDs tA σ H ds) (hl : ds.length ≤ 100000) : EvLd (tLst tA) σ H ds := fun H1 e Q q =>
  h H1 e _ fun vs H2 e2 r => ⟨by rw [r.length]; exact sz_of hl, fun p hp => q p vs _ (fresh_back e2 hp) (e2.trans (Ex.new hp)) upd_same (by rw [r.length]; exact hl) (r.ex (Ex.new hp))⟩
/-- an item of a list of data -/
theorem evd_ixL {i : Int} (ha : EvR ta σ H (Ld ds)) (hb : EvD tb σ H (.int i)) (e : atI ds i = some d) : EvD (tOp (rIxL K) ta tb) σ H d := fun H1 e1 Q q =>
  ha H1 e1 _ fun v H2 e2 r2 => hb H2 (e1.trans e2) _ fun y H3 e3 r3 => by
    obtain ⟨a, xs, rfl, hx, hz, r⟩ := r2.ex e3
    obtain ⟨v, hv, hd⟩ := r.at e
    exact ⟨a, xs, i, v, rfl, r3.int_inv, SqL.of hx, hv, q v H3 (e2.trans e3) hd⟩

/-! ### comprehensions -/
/-- over a tuple -/
theorem evld_lcT {j : Nat} {ws : List Nat} {f : Nat → PyData → Bool} {c : Nat → PyData → PyData} (h : EvD ta σ H (.tuple ds)) (hz : ds.length ≤ 40000) (hw : ∀ x, wipe ((wipe σ ws).set j (some x)) ws = wipe σ ws)
    (ht : ∀ (i : Nat) (x : V) (d : PyData) H1, Ex H H1 → ds[i]? = some d → Td H1 x d → EvT t ((wipe σ ws).set j (some x)) H1 (f i d))
    (he : ∀ (i : Nat) (x : V) (d : PyData) H1, Ex H H1 → ds[i]? = some d → Td H1 x d → f i d = true → EvD te ((wipe σ ws).set j (some x)) H1 (c i d)) :
    EvLd (tLc (iTup K ta) (gName j) t te ws) σ H ((ds.zipIdx.filter fun p => f p.2 p.1).map fun p => c p.2 p.1) := fun H1 e Q q => evl_lcT h hz hw ht he rfl H1 e Q q
/-- over a list of data -/
theorem evld_lcL {j : Nat} {ws : List Nat} {f : Nat → PyData → Bool} {c : Nat → PyData → PyData} (h : EvR ta σ H (Ld ds)) (hz : ds.length ≤ 40000) (hw : ∀ x, wipe ((wipe σ ws).set j (some x)) ws = wipe σ ws)
    (ht : ∀ (i : Nat) (x : V) (d : PyData) H1, Ex H H1 → ds[i]? = some d → Td H1 x d → EvT t ((wipe σ ws).set j (some x)) H1 (f i d))
    (he : ∀ (i : Nat) (x : V) (d : PyData) H1, Ex H H1 → ds[i]? = some d → Td H1 x d → f i d = true → EvD te ((wipe σ ws).set j (some x)) H1 (c i d)) :
    EvLd (tLc (iList K ta) (gName j) t te ws) σ H ((ds.zipIdx.filter fun p => f p.2 p.1).map fun p => c p.2 p.1) := fun H0 e0 Q q =>
  h H0 e0 _ fun v H1 e1 r1 => by
    obtain ⟨a, xs, rfl, hx, _, r⟩ := r1
    have hl := r.length
    refine ⟨a, rfl, ⟨xs, SqL.of hx⟩, fun D hD => ?_⟩
    let out' : Nat → List PyData := fun n => ((ds.zipIdx.take n).filter fun p => f p.2 p.1).map fun p => c p.2 p.1
    have hlen : ∀ n, (out' n).length ≤ ds.length := fun n => by
      show (List.map _ _).length ≤ _
      rw [List.length_map]
      refine Nat.le_trans (List.length_filter_le _ _) ?_
      rw [List.length_take, List.length_zipIdx]
      exact Nat.min_le_right _ _
    have hne : a ≠ D := ne_of_none hx hD
    refine lc_list (xs := xs) (CwD H1 out' D) ⟨hD, Ex.new hD, [], upd_same, TdAll.nil⟩ (fun i H' _ p => SqL.of (p.2.1 _ _ hx)) (fun i x H' hi p => ⟨hw x, ?_⟩) fun H' p => ?_
    · obtain ⟨d, hd, hxd⟩ := r.get' hi
      refine cwd_turn (b := f i d) (d := c i d) p (Nat.lt_of_le_of_lt (hlen i) (by omega)) (ht i x d H1 (e0.trans e1) hd hxd) (fun hf => he i x d H1 (e0.trans e1) hd hxd hf) ?_
      show ((ds.zipIdx.take (i + 1)).filter _).map _ = _
      have hz' : ds.zipIdx[i]? = some (d, i) := by rw [List.getElem?_zipIdx, hd]; simp
      rw [List.take_add_one, hz', Option.toList_some, List.filter_append, List.map_append, List.filter_cons, List.filter_nil]
      split <;> simp_all [out']
    · obtain ⟨p1, p2, acc, p3, p4⟩ := p
      have e : out' xs.length = (ds.zipIdx.filter fun p => f p.2 p.1).map fun p => c p.2 p.1 := by
        show ((ds.zipIdx.take xs.length).filter _).map _ = _
        rw [List.take_of_length_le (by rw [List.length_zipIdx]; omega)]
      rw [e] at p4
      refine q D acc H' (fresh_back e1 p1) (e1.trans p2) p3 ?_ p4
      rw [p4.length, ← e]
      exact Nat.le_trans (hlen _) (by omega)
theorem zf_map {f : PyData → Bool} {c : PyData → PyData} (ds : List PyData) : (ds.zipIdx.filter fun p => f p.1).map (fun p => c p.1) = (ds.filter f).map c := by
  have : ∀ k, ((ds.zipIdx k).filter fun p => f p.1).map (fun p => c p.1) = (ds.filter f).map c := by
    induction ds with
    | nil => intro k; rfl
    | cons d r ih =>
      intro k
      rw [List.zipIdx_cons, List.filter_cons, List.filter_cons]
      by_cases hf : f d = true
      · simp only [hf, if_true, List.map_cons, ih]
      · simp only [hf, if_false, ih, Bool.false_eq_true]
  exact this 0
/-- over range(n) -/
theorem evld_lcR {j : Nat} {ws : List Nat} {n : Nat} {f : Nat → Bool} {c : Nat → PyData} (h : EvDs tA σ H [.int (n : Nat)]) (hz : n ≤ 40000) (hw : ∀ x, wipe ((wipe σ ws).set j (some x)) ws = wipe σ ws)
    (ht : ∀ (i : Nat) H1, Ex H H1 → i < n → EvT t ((wipe σ ws).set j (some (.int (i : Nat)))) H1 (f i))
    (he : ∀ (i : Nat) H1, Ex H H1 → i < n → f i = true → EvD te ((wipe σ ws).set j (some (.int (i : Nat)))) H1 (c i)) :
    EvLd (tLc (iRng1 tA) (gName j) t te ws) σ H (((List.range n).filter f).map c) := fun H0 e0 Q q =>
  h H0 e0 _ fun vs H1 e1 r1 => by
    obtain ⟨v, rfl, rv⟩ := r1.inv1
    have rv := rv.int_inv
    subst rv
    refine ⟨(n : Nat), rfl, by omega, by omega, fun D hD => ?_⟩
    let out' : Nat → List PyData := fun k => ((List.range k).filter f).map c
    have hlen : ∀ k, (out' k).length ≤ k := fun k => by
      show (List.map _ _).length ≤ _
      rw [List.length_map]
      refine Nat.le_trans (List.length_filter_le _ _) ?_
      rw [List.length_range]
      exact Nat.le_refl _
    refine lc_range (lo := 0) (n := ((n : Nat) : Int).toNat) (CwD H1 out' D) ⟨hD, Ex.new hD, [], upd_same, TdAll.nil⟩ (fun i H' hi p => ?_) fun H' p => ?_
    · have hi' : i < n := by omega
      have e0' : (0 : Int) + (i : Nat) = (i : Nat) := Int.zero_add _
      refine ⟨hw _, ?_⟩
      rw [e0']
      refine cwd_turn (b := f i) (d := c i) p (by have := hlen i; omega) (ht i H1 (e0.trans e1) hi') (fun hf => he i H1 (e0.trans e1) hi' hf) ?_
      show ((List.range (i + 1)).filter f).map c = _
      rw [List.range_succ, List.filter_append, List.map_append, List.filter_cons, List.filter_nil]
      split <;> simp_all [out']
    · obtain ⟨p1, p2, acc, p3, p4⟩ := p
      have e : ((n : Nat) : Int).toNat = n := by omega
      rw [e] at p4
      refine q D acc H' (fresh_back e1 p1) (e1.trans p2) p3 ?_ p4
      rw [p4.length]
      exact Nat.le_trans (hlen _) (by omega)

/-! ### for -/
/-- for x in t -/
theorem s_forTD {tl : TE} (h : EvD tl σ H (.tuple ds)) (Pv : Hp → Nat → L2.St → Hp → Prop) (h0 : ∀ H1, Ex H H1 → Pv H1 0 σ H1) (hk : ∀ H1 i σ' H', Pv H1 i σ' H' → TK H1 H')
    (hs : ∀ H1 (i : Nat) x d σ' H', Ex H H1 → ds[i]? = some d → Td H' x d → Pv H1 i σ' H' → g x σ' H' fun σ2 H2 => tu { D with nx := Pv H1 (i + 1), ct := Pv H1 (i + 1), bk := D.nx } σ2 H2)
    (hd : ∀ H1 σ' H', Ex H H1 → Pv H1 ds.length σ' H' → D.nx σ' H') : tFor (iTup K tl) g tu D σ H :=
  h H (Ex.refl H) _ fun v H1 e r => by
    obtain ⟨a, xs, rfl, hx, hz, r⟩ := r.tup_inv
    have hl := r.length
    refine ⟨a, rfl, ⟨xs, SqT.of hx⟩, for_tup (xs := xs) (Pv H1) (h0 H1 e) (fun i σ' H' _ p => SqT.of (hk _ _ _ _ p _ _ hx)) (fun i x σ' H' hi p => ?_) (fun σ' H' p => hd H1 σ' H' e (by rw [hl] at p; exact p))⟩
    obtain ⟨d, hd', td⟩ := r.get' hi
    exact hs H1 i x d σ' H' e hd' (td.keep (hk _ _ _ _ p)) p
theorem q_forTD {tl : TE} (h : EvD tl σ H (.tuple ds)) (Pv : Hp → Nat → L2.St → Hp → Prop) (h0 : ∀ H1, Ex H H1 → Pv H1 0 σ H1) (hk : ∀ H1 i σ' H', Pv H1 i σ' H' → TK H1 H')
    (hs : ∀ H1 (i : Nat) x d σ' H', Ex H H1 → ds[i]? = some d → Td H' x d → Pv H1 i σ' H' → g x σ' H' fun σ2 H2 => tu { D with nx := Pv H1 (i + 1), ct := Pv H1 (i + 1), bk := tz D } σ2 H2)
    (hd : ∀ H1 σ' H', Ex H H1 → Pv H1 ds.length σ' H' → tz D σ' H') : tSeq (tFor (iTup K tl) g tu) tz D σ H := s_forTD (D := { D with nx := tz D }) h Pv h0 hk hs hd
/-- for i, x in enumerate(t) -/
theorem s_forE {j l : Nat} (h : EvDs tA σ H [.tuple ds]) (Pv : Hp → Nat → L2.St → Hp → Prop) (h0 : ∀ H1, Ex H H1 → Pv H1 0 σ H1) (hk : ∀ H1 i σ' H', Pv H1 i σ' H' → TK H1 H')
    (hs : ∀ H1 (i : Nat) x d σ' H' T, Ex H H1 → ds[i]? = some d → Td H' x d → Pv H1 i σ' H' → H' T = none → tu { D with nx := Pv H1 (i + 1), ct := Pv H1 (i + 1), bk := D.nx } ((σ'.set j (some (.int (i : Nat)))).set l (some x)) (upd H' T (.tup [.int (i : Nat), x])))
    (hd : ∀ H1 σ' H', Ex H H1 → Pv H1 ds.length σ' H' → D.nx σ' H') : tFor (iEnumT K tA) (gTup K 2 (gCons (gName j) (gCons (gName l) gNil))) tu D σ H :=
  h H (Ex.refl H) _ fun vs H1 e r => by
    obtain ⟨v, rfl, rv⟩ := r.inv1
    obtain ⟨a, xs, rfl, hx, hz, r⟩ := rv.tup_inv
    have hl := r.length
    refine ⟨a, xs, rfl, SqT.of hx, for_enumT (xs := xs) (Pv H1) (h0 H1 e) (fun i σ' H' _ p => SqT.of (hk _ _ _ _ p _ _ hx)) (fun i x T σ' H' hi p hT => ?_) (fun σ' H' p => hd H1 σ' H' e (by rw [hl] at p; exact p))⟩
    obtain ⟨d, hd', td⟩ := r.get' hi
    exact ⟨T, _, rfl, SqT.of upd_same, rfl, _, _, rfl, _, _, rfl, rfl, hs H1 i x d σ' H' T e hd' (td.keep (hk _ _ _ _ p)) p hT⟩
theorem q_forE {j l : Nat} (h : EvDs tA σ H [.tuple ds]) (Pv : Hp → Nat → L2.St → Hp → Prop) (h0 : ∀ H1, Ex H H1 → Pv H1 0 σ H1) (hk : ∀ H1 i σ' H', Pv H1 i σ' H' → TK H1 H')
    (hs : ∀ H1 (i : Nat) x d σ' H' T, Ex H H1 → ds[i]? = some d → Td H' x d → Pv H1 i σ' H' → H' T = none → tu { D with nx := Pv H1 (i + 1), ct := Pv H1 (i + 1), bk := tz D } ((σ'.set j (some (.int (i : Nat)))).set l (some x)) (upd H' T (.tup [.int (i : Nat), x])))
    (hd : ∀ H1 σ' H', Ex H H1 → Pv H1 ds.length σ' H' → tz D σ' H') : tSeq (tFor (iEnumT K tA) (gTup K 2 (gCons (gName j) (gCons (gName l) gNil))) tu) tz D σ H := s_forE (D := { D with nx := tz D }) h Pv h0 hk hs hd
/-- for x in l, l a list of data that stands through the loop -/
theorem s_forLD {tl : TE} (h : EvR tl σ H (Ld ds)) (Pv : Addr → List V → Nat → L2.St → Hp → Prop) (h0 : ∀ p vs H1, Ex H H1 → H1 p = some (.lst vs) → TdAll H1 vs ds → Pv p vs 0 σ H1) (hk : ∀ p vs i σ' H', Pv p vs i σ' H' → H' p = some (.lst vs) ∧ TdAll H' vs ds)
    (hs : ∀ p vs (i : Nat) x d σ' H', ds[i]? = some d → Td H' x d → Pv p vs i σ' H' → g x σ' H' fun σ2 H2 => tu { D with nx := Pv p vs (i + 1), ct := Pv p vs (i + 1), bk := D.nx } σ2 H2)
    (hd : ∀ p vs σ' H', Pv p vs ds.length σ' H' → D.nx σ' H') : tFor (iList K tl) g tu D σ H :=
  h H (Ex.refl H) _ fun v H1 e ⟨p, xs, ev, hx, hz, r⟩ => by
    subst ev
    have hl := r.length
    refine ⟨p, rfl, ⟨xs, SqL.of hx⟩, for_list (xs := xs) (Pv p xs) (h0 p xs H1 e hx r) (fun i σ' H' _ q => SqL.of (hk _ _ _ _ _ q).1) (fun i x σ' H' hi q => ?_) (fun σ' H' q => hd p xs σ' H' (by rw [hl] at q; exact q))⟩
    obtain ⟨d, hd', td⟩ := (hk _ _ _ _ _ q).2.get' hi
    exact hs p xs i x d σ' H' hd' td q
theorem q_forLD {tl : TE} (h : EvR tl σ H (Ld ds)) (Pv : Addr → List V → Nat → L2.St → Hp → Prop) (h0 : ∀ p vs H1, Ex H H1 → H1 p = some (.lst vs) → TdAll H1 vs ds → Pv p vs 0 σ H1) (hk : ∀ p vs i σ' H', Pv p vs i σ' H' → H' p = some (.lst vs) ∧ TdAll H' vs ds)
    (hs : ∀ p vs (i : Nat) x d σ' H', ds[i]? = some d → Td H' x d → Pv p vs i σ' H' → g x σ' H' fun σ2 H2 => tu { D with nx := Pv p vs (i + 1), ct := Pv p vs (i + 1), bk := tz D } σ2 H2)
    (hd : ∀ p vs σ' H', Pv p vs ds.length σ' H' → tz D σ' H') : tSeq (tFor (iList K tl) g tu) tz D σ H := s_forLD (D := { D with nx := tz D }) h Pv h0 hk hs hd
/-- for i in range(n), range(a, b) -/
theorem s_forR {j : Nat} {n : Nat} (h : EvDs tA σ H [.int (n : Nat)]) (hn : n ≤ 100000) (Pv : Nat → L2.St → Hp → Prop) (h0 : ∀ H1, Ex H H1 → Pv 0 σ H1)
    (hs : ∀ (i : Nat) σ' H', i < n → Pv i σ' H' → tu { D with nx := Pv (i + 1), ct := Pv (i + 1), bk := D.nx } (σ'.set j (some (.int (i : Nat)))) H') (hd : ∀ σ' H', Pv n σ' H' → D.nx σ' H') : tFor (iRng1 tA) (gName j) tu D σ H :=
  h H (Ex.refl H) _ fun vs H1 e r => by
    obtain ⟨v, rfl, rv⟩ := r.inv1
    have rv := rv.int_inv
    subst rv
    have en : ((n : Nat) : Int).toNat = n := by omega
    refine ⟨(n : Nat), rfl, by omega, by omega, for_range (lo := 0) (n := ((n : Nat) : Int).toNat) Pv (h0 H1 e) (fun i σ' H' hi p => ?_) (fun σ' H' p => hd σ' H' (by rw [en] at p; exact p))⟩
    have e0 : (0 : Int) + (i : Nat) = (i : Nat) := Int.zero_add _
    show tu { D with nx := Pv (i + 1), ct := Pv (i + 1), bk := D.nx } (σ'.set j (some (.int ((0 : Int) + (i : Nat))))) H'
    rw [e0]
    exact hs i σ' H' (by omega) p
theorem q_forR {j : Nat} {n : Nat} (h : EvDs tA σ H [.int (n : Nat)]) (hn : n ≤ 100000) (Pv : Nat → L2.St → Hp → Prop) (h0 : ∀ H1, Ex H H1 → Pv 0 σ H1)
    (hs : ∀ (i : Nat) σ' H', i < n → Pv i σ' H' → tu { D with nx := Pv (i + 1), ct := Pv (i + 1), bk := tz D } (σ'.set j (some (.int (i : Nat)))) H') (hd : ∀ σ' H', Pv n σ' H' → tz D σ' H') : tSeq (tFor (iRng1 tA) (gName j) tu) tz D σ H := s_forR (D := { D with nx := tz D }) h hn Pv h0 hs hd
theorem s_forR2' {j : Nat} {a n : Nat} (h : EvDs tA σ H [.int (a : Nat), .int (n : Nat)]) (hn : a ≤ n ∧ n ≤ 100000) (Pv : Nat → L2.St → Hp → Prop) (h0 : ∀ H1, Ex H H1 → Pv a σ H1)
    (hs : ∀ (i : Nat) σ' H', a ≤ i → i < n → Pv i σ' H' → tu { D with nx := Pv (i + 1), ct := Pv (i + 1), bk := D.nx } (σ'.set j (some (.int (i : Nat)))) H') (hd : ∀ σ' H', Pv n σ' H' → D.nx σ' H') : tFor (iRng2 tA) (gName j) tu D σ H :=
  h H (Ex.refl H) _ fun vs H1 e r => by
    obtain ⟨v, u, rfl, rv, ru⟩ := r.inv2
    have rv := rv.int_inv
    have ru := ru.int_inv
    subst rv ru
    have en : a + (((n : Nat) : Int) - (a : Nat)).toNat = n := by omega
    refine ⟨(a : Nat), (n : Nat), rfl, ⟨by omega, by omega, by omega, by omega⟩, for_range (lo := (a : Nat)) (n := (((n : Nat) : Int) - (a : Nat)).toNat) (fun i => Pv (a + i)) (h0 H1 e) (fun i σ' H' hi p => ?_) (fun σ' H' p => hd σ' H' (by rw [en] at p; exact p))⟩
    have e0 : ((a : Nat) : Int) + (i : Nat) = ((a + i : Nat) : Int) := by omega
    show tu { D with nx := Pv (a + (i + 1)), ct := Pv (a + (i + 1)), bk := D.nx } (σ'.set j (some (.int (((a : Nat) : Int) + (i : Nat))))) H'
    rw [e0]
    exact hs (a + i) σ' H' (by omega) (by omega) p
theorem q_forR2' {j : Nat} {a n : Nat} (h : EvDs tA σ H [.int (a : Nat), .int (n : Nat)]) (hn : a ≤ n ∧ n ≤ 100000) (Pv : Nat → L2.St → Hp → Prop) (h0 : ∀ H1, Ex H H1 → Pv a σ H1)
    (hs : ∀ (i : Nat) σ' H', a ≤ i → i < n → Pv i σ' H' → tu { D with nx := Pv (i + 1), ct := Pv (i + 1), bk := tz D } (σ'.set j (some (.int (i : Nat)))) H') (hd : ∀ σ' H', Pv n σ' H' → tz D σ' H') : tSeq (tFor (iRng2 tA) (gName j) tu) tz D σ H := s_forR2' (D := { D with nx := tz D }) h hn Pv h0 hs hd
end
end RFW
end

section
set_option Elab.async false
set_option linter.all false
set_option maxRecDepth 100000
set_option maxHeartbeats 4000000
/-! The text by places; programs as data. -/
namespace RFW
open PySem L2 Evl RF
def top (i : Nat) : Stmt := PySem.Challenge.pw_ringfences_k74_whole_programs_side_by_si.main.body.getD i (.Pass ⟨0, 0, 0, 0⟩)
/-- what a name of the module holds: a text, a number -/
def Gs (mg : Str → Option Value) (x v : Str) : Prop := ∃ t, mg x = some (Value.str v t)
def Gi (mg : Str → Option Value) (x : Str) (v : Int) : Prop := ∃ t, mg x = some (Value.int v t)
theorem pe_gs {X : Cx} {x v : Str} {pos : Pos} (h : Gs X.mg x v) (hg : Gl X x := by rfl) (hd : (x == ("__debug__" : Str)) = false := by decide) : PE X (.Name x pos) (tC (.str v)) := by
  obtain ⟨t, h⟩ := h
  exact pe_glob hg h ⟨t, rfl⟩ hd
theorem pe_gi {X : Cx} {x : Str} {v : Int} {pos : Pos} (h : Gi X.mg x v) (hg : Gl X x := by rfl) (hd : (x == ("__debug__" : Str)) = false := by decide) : PE X (.Name x pos) (tC (.int v)) := by
  obtain ⟨t, h⟩ := h
  exact pe_glob hg h ⟨t, rfl⟩ hd
structure Txt (mg : Str → Option Value) : Prop where
  FENCE : Gs mg "FENCE" "fence"
  LOAD : Gs mg "LOAD" "load"
  STORE : Gs mg "STORE" "store"
  SWAP : Gs mg "SWAP" "swap"
  LINE : Gs mg "LINE" "line"
  LANES : Gs mg "LANES" "lanes"
  ROOM : Gi mg "MOST_ROOM" 16
  len : mg "len" = none
  any : mg "any" = none
  all : mg "all" = none
  enum : mg "enumerate" = none
  range : mg "range" = none
  tuple : mg "tuple" = none
  sorted : mg "sorted" = none
  min : mg "min" = none
  max : mg "max" = none
  list : mg "list" = none
  set : mg "set" = none
  sum : mg "sum" = none
  abs : mg "abs" = none
  int : mg "int" = none
/-- a def of the module stands, and keeps its promise -/
structure DefOk (P : Program) (w : World) (K : PySem.W.Frag) (mg : Str → Option Value) (base : Heap) (x : Str) (ps : List Str) (k : Nat) (sp : Sp) : Prop where
  ex : ∃ (f : Addr) (fd : FuncData), mg x = some (.ref f) ∧ PySem.W.keepIn K (.ref f) = true ∧ Binds K fd ps [] ∧ FnOk P w K mg base CX0 k f fd ps sp
/-- a def of the module stands -/
structure Here (K : PySem.W.Frag) (mg : Str → Option Value) (x : Str) (st : Stmt) (ps : List Str) : Prop where
  ex : ∃ (f : Addr) (fd : FuncData), mg x = some (.ref f) ∧ Fun K x x st f fd ∧ Binds K fd ps []
theorem Here.ok {P : Program} {w : World} {K : PySem.W.Frag} {mg : Str → Option Value} {base : Heap} {x : Str} {st : Stmt} {ps : List Str} {k : Nat} {sp : Sp} (h : Here K mg x st ps)
    (go : ∀ {f : Addr} {fd : FuncData}, Fun K x x st f fd → FnOk P w K mg base CX0 k f fd ps sp) : DefOk P w K mg base x ps k sp := by
  obtain ⟨f, fd, h1, h2, h3⟩ := h.ex
  exact ⟨f, fd, h1, h2.kp, h3, go h2⟩
theorem pe_def {X : Cx} {x : Str} {ps : List Str} {k : Nat} {sp : Sp} {e : Expr} {es : List Expr} {t : TA} {p pos : Pos} (D : DefOk X.prog X.w X.K X.mg X.base x ps k sp) (hr : Room k X.A) (hg : Gl X x) (ha : PA X (e :: es) t) (hx : Passes CX0 X E0)
    (hdb : (x == ("__debug__" : Str)) = false := by decide) (he : starEach (e :: es) X.env = (false, eval e X.env) :: starEach es X.env := by rfl) (hpl : (backTo pos (starEach es X.env)).any (·.1) = false := by rfl) :
    PE X (.Call (.Name x p) (e :: es) [] pos) (tCall sp [] E0 t) := by
  obtain ⟨f, fd, h1, h2, h3, h4⟩ := D.ex
  exact pe_call h4 hr hg h1 h2 h3 .nil hx ha hdb he hpl

/-! ### programs as data -/
abbrev I' := Ins Str
abbrev T' := List I'
abbrev P' := List T'
def kdS : Kd → Str
  | .store => "store"
  | .load => "load"
  | .swap => "swap"
def insL : I' → List PyData
  | .acc k x => [.str (kdS k), .str x]
  | .fence => [.str "fence"]
def insD (i : I') : PyData := .tuple (insL i)
def thD (t : T') : PyData := .tuple (t.map insD)
def progD (p : P') : PyData := .tuple (p.map thD)
def plD (t a : Nat) : PyData := .tuple [.int (t : Int), .int (a : Int)]
def wordS (line : Bool) : Str := if line then "line" else "lanes"
/-- the variables are texts that == can compare -/
def VarOk (i : I') : Prop := ∀ x, i.var? = some x → PyData.strOk x = true
structure ProgOk (p : P') : Prop where
  few : p.length ≤ 6
  short : ∀ t ∈ p, t.length ≤ 16
  vars : ∀ t ∈ p, ∀ i ∈ t, VarOk i
theorem atI_map {α : Type} {f : α → PyData} {l : List α} {i : Nat} {x : α} (h : l[i]? = some x) : atI (l.map f) (i : Int) = some (f x) := atI_nat (by rw [List.getElem?_map, h]; rfl)
theorem atI_0 {α : Type} {x : α} {l : List α} : atI (x :: l) 0 = some x := atI_nat (j := 0) rfl
theorem atI_1 {α : Type} {x y : α} {l : List α} : atI (x :: y :: l) 1 = some y := atI_nat (j := 1) rfl
theorem shaped_kd (k : Kd) : SeqAt.shaped (.str (kdS k)) = true := by cases k <;> decide +kernel
end RFW
end

section
set_option Elab.async false
set_option linter.all false
set_option maxRecDepth 100000
set_option maxHeartbeats 4000000
/-! programs: is_access_to, does_store, empties, instruction_at, meets. -/
namespace RFW
open PySem L2 Evl RF
/-- the word of an instruction -/
def insW : I' → Str
  | .acc k _ => kdS k
  | .fence => "fence"
theorem insL_0 (i : I') : atI (insL i) 0 = some (.str (insW i)) := by cases i <;> exact atI_0
theorem insL_1 {i : I'} {x : Str} (h : i.var? = some x) : atI (insL i) 1 = some (.str x) := by
  cases i with
  | acc k y => cases h; exact atI_1
  | fence => cases h
theorem kd_ne : ∀ k : Kd, ¬ kdS k = "fence" := by intro k; cases k <;> decide +kernel
theorem isAcc_w (i : I') : (!decide (insW i = "fence")) = i.isAcc := by
  cases i with
  | acc k y =>
    show (!decide (kdS k = "fence")) = true
    rw [decide_eq_false (kd_ne k)]; rfl
  | fence => rfl
theorem var_acc {i : I'} (h : i.isAcc = true) : ∃ x, i.var? = some x := by
  cases i with
  | acc k y => exact ⟨y, rfl⟩
  | fence => cases h
theorem in_ss : ∀ k : Kd, inV (.str (kdS k)) [.str "store", .str "swap"] = !decide (k = .load) := by intro k; cases k <;> decide +kernel
theorem in_fs : ∀ k : Kd, inV (.str (kdS k)) [.str "fence", .str "swap"] = decide (k = .swap) := by intro k; cases k <;> decide +kernel
abbrev sAcc : Stmt := top 8
abbrev sDoes : Stmt := top 9
abbrev sEmp : Stmt := top 10
abbrev sAt : Stmt := top 11
abbrev sMeets : Stmt := top 12
section
variable {P : Program} {w : World} {K : PySem.W.Frag} {mg : Str → Option Value} {base : Heap}
def fAcc : List PyData → PyData → Prop := fun ds d => ∃ i : I', ds = [insD i] ∧ d = .bool i.isAcc
theorem scAcc : FnScope ["instruction"] ["instruction"] (defScope sAcc) := ⟨rfl, rfl, rfl, by decide +kernel, rfl, by decide +kernel, by decide +kernel⟩
theorem ok_acc (T : Txt mg) (h : Here K mg "is_access_to" sAcc ["instruction"]) : DefOk P w K mg base "is_access_to" ["instruction"] 1 (SpD fAcc) := h.ok fun F => by
  refine F.ok scAcc (fun vs H Q E h => ?_) (fun cdv A outer s H vs Q E hr h => ?_)
  · obtain ⟨_, ⟨ds, d, r, ⟨i, rfl, _⟩, _⟩, _⟩ := h
    exact r.length
  · obtain ⟨_, ⟨ds, d, r, ⟨i, rfl, rfl⟩, rfl⟩, k⟩ := h
    obtain ⟨v, rfl, hv⟩ := r.inv1
    refine ⟨_, pss_one (ps_ret (pe_cmpR op_ne (pe_ix ix_tup (pv 0) pe_int (fun _ _ => rfl)) (pe_gs T.FENCE) (nomark _))), ?_⟩
    exact s_retR ((evd_neS (evd_ix (evd_var rfl hv) evd_int (insL_0 i)) evd_str).is (by rw [isAcc_w])) k
def fDoes : List PyData → PyData → Prop := fun ds d => ∃ i : I', ds = [insD i] ∧ d = .bool i.doesStore
theorem scDoes : FnScope ["instruction"] ["instruction"] (defScope sDoes) := ⟨rfl, rfl, rfl, by decide +kernel, rfl, by decide +kernel, by decide +kernel⟩
theorem ok_does (T : Txt mg) (h : Here K mg "does_store" sDoes ["instruction"]) : DefOk P w K mg base "does_store" ["instruction"] 1 (SpD fDoes) := h.ok fun F => by
  refine F.ok scDoes (fun vs H Q E h => ?_) (fun cdv A outer s H vs Q E hr h => ?_)
  · obtain ⟨_, ⟨ds, d, r, ⟨i, rfl, _⟩, _⟩, _⟩ := h
    exact r.length
  · obtain ⟨_, ⟨ds, d, r, ⟨i, rfl, rfl⟩, rfl⟩, k⟩ := h
    obtain ⟨v, rfl, hv⟩ := r.inv1
    refine ⟨_, pss_one (ps_ret (pe_cmpR op_in_seq (pe_ix ix_tup (pv 0) pe_int (fun _ _ => rfl)) (pe_tup (pa_cons (pe_gs T.STORE) (pa_cons (pe_gs T.SWAP) pa_nil))) (by rfl))), ?_⟩
    refine s_retR ((evd_of_bl (ev_inU (ev_str (evd_ix (evd_var rfl hv) evd_int (insL_0 i))) (eu_tup (ea_cons ev_c (ea_cons ev_c ea_nil)) (by decide)) rfl rfl)).is ?_) k
    congr 1
    cases i with
    | acc kd y => exact (in_ss kd).trans (by cases kd <;> rfl)
    | fence => decide +kernel
def fEmp : List PyData → PyData → Prop := fun ds d => ∃ i : I', ds = [insD i] ∧ d = .bool i.empties
theorem scEmp : FnScope ["instruction"] ["instruction"] (defScope sEmp) := ⟨rfl, rfl, rfl, by decide +kernel, rfl, by decide +kernel, by decide +kernel⟩
theorem ok_emp (T : Txt mg) (h : Here K mg "empties" sEmp ["instruction"]) : DefOk P w K mg base "empties" ["instruction"] 1 (SpD fEmp) := h.ok fun F => by
  refine F.ok scEmp (fun vs H Q E h => ?_) (fun cdv A outer s H vs Q E hr h => ?_)
  · obtain ⟨_, ⟨ds, d, r, ⟨i, rfl, _⟩, _⟩, _⟩ := h
    exact r.length
  · obtain ⟨_, ⟨ds, d, r, ⟨i, rfl, rfl⟩, rfl⟩, k⟩ := h
    obtain ⟨v, rfl, hv⟩ := r.inv1
    refine ⟨_, pss_one (ps_ret (pe_cmpR op_in_seq (pe_ix ix_tup (pv 0) pe_int (fun _ _ => rfl)) (pe_tup (pa_cons (pe_gs T.FENCE) (pa_cons (pe_gs T.SWAP) pa_nil))) (by rfl))), ?_⟩
    refine s_retR ((evd_of_bl (ev_inU (ev_str (evd_ix (evd_var rfl hv) evd_int (insL_0 i))) (eu_tup (ea_cons ev_c (ea_cons ev_c ea_nil)) (by decide)) rfl rfl)).is ?_) k
    congr 1
    cases i with
    | acc kd y => exact (in_fs kd).trans (by cases kd <;> rfl)
    | fence => decide +kernel
/-- program, place ↦ the instruction -/
def fAt : List PyData → PyData → Prop := fun ds d => ∃ (p : P') (t a : Nat), ds = [progD p, plD t a] ∧ t < p.length ∧ a < (th p t).length ∧ d = insD (ins p t a)
theorem prog_at {p : P'} {t : Nat} (h : t < p.length) : atI (p.map thD) (t : Int) = some (thD (th p t)) := atI_map (by unfold th; rw [List.getD_eq_getElem?_getD, List.getElem?_eq_getElem h]; rfl)
theorem th_at {t : T'} {a : Nat} (h : a < t.length) : atI (t.map insD) (a : Int) = some (insD (t.getD a .fence)) := atI_map (by rw [List.getD_eq_getElem?_getD, List.getElem?_eq_getElem h]; rfl)
theorem scAt : FnScope ["program", "place", "thread", "at"] ["program", "place"] (defScope sAt) := ⟨rfl, rfl, rfl, by decide +kernel, rfl, by decide +kernel, by decide +kernel⟩
theorem ok_at (T : Txt mg) (h : Here K mg "instruction_at" sAt ["program", "place"]) : DefOk P w K mg base "instruction_at" ["program", "place"] 1 (SpD fAt) := h.ok fun F => by
  refine F.ok scAt (fun vs H Q E h => ?_) (fun cdv A outer s H vs Q E hr h => ?_)
  · obtain ⟨_, ⟨ds, d, r, ⟨p, t, a, rfl, _⟩, _⟩, _⟩ := h
    exact r.length
  · obtain ⟨_, ⟨ds, d, r, ⟨p, t, a, rfl, ht, ha, rfl⟩, rfl⟩, k⟩ := h
    obtain ⟨v, u, rfl, hv, hu⟩ := r.inv2
    refine ⟨_, pss_cons (ps_asg (pv 1) (pg_tup (by rfl) (pgs_cons (pg_name (i := 2) scAt.nd rfl (.inl rfl)) (pgs_cons (pg_name (i := 3) scAt.nd rfl (.inl rfl)) pgs_nil))))
      (pss_one (ps_ret (pe_ix ix_tup (pe_ix ix_tup (pv 0) (pv 2) (fun _ _ => rfl)) (pv 3) (fun _ _ => rfl)))), ?_⟩
    refine q_tup2 (evd_var rfl hu) fun v1 v2 H1 e1 r1 r2 => ?_
    exact s_retR (evd_ix (evd_ix (evd_var rfl (hv.ex e1)) (evd_var rfl r1) (prog_at ht)) (evd_var rfl r2) (th_at ha)) fun v H2 e2 r => k v H2 (e1.trans e2) r
/-- program, two places of accesses ↦ whether they meet -/
def fMeets : List PyData → PyData → Prop := fun ds d => ∃ (p : P') (t a t' a' : Nat), ds = [progD p, plD t a, plD t' a'] ∧ t < p.length ∧ a < (th p t).length ∧ t' < p.length ∧ a' < (th p t').length ∧ (ins p t a).isAcc = true ∧ (ins p t' a').isAcc = true ∧
  d = .bool ((ins p t a).meets (ins p t' a'))
theorem scMeets : FnScope ["program", "one", "other", "first", "second"] ["program", "one", "other"] (defScope sMeets) := ⟨rfl, rfl, rfl, by decide +kernel, rfl, by decide +kernel, by decide +kernel⟩
theorem ok_meets (T : Txt mg) (D1 : DefOk P w K mg base "instruction_at" ["program", "place"] 1 (SpD fAt)) (D2 : DefOk P w K mg base "does_store" ["instruction"] 1 (SpD fDoes)) (h : Here K mg "meets" sMeets ["program", "one", "other"]) :
    DefOk P w K mg base "meets" ["program", "one", "other"] 2 (SpD fMeets) := h.ok fun F => by
  refine F.ok scMeets (fun vs H Q E h => ?_) (fun cdv A outer s H vs Q E hr h => ?_)
  · obtain ⟨_, ⟨ds, d, r, ⟨p, t, a, t', a', rfl, _⟩, _⟩, _⟩ := h
    exact r.length
  · obtain ⟨_, ⟨ds, d, r, ⟨p, t, a, t', a', rfl, h1, h2, h3, h4, h5, h6, rfl⟩, rfl⟩, k⟩ := h
    obtain ⟨v, u, x, rfl, hv, hu, hx⟩ := r.inv3
    refine ⟨_, pss_cons (ps_par (by rfl) scMeets.nd (i := 3) (j := 4) rfl rfl (by decide) rfl rfl (pa_cons (pe_def D1 hr rfl (pa_cons (pv 0) (pa_cons (pv 1) pa_nil)) pass0) (pa_cons (pe_def D1 hr rfl (pa_cons (pv 0) (pa_cons (pv 2) pa_nil)) pass0) pa_nil)) (by rfl))
      (pss_one (ps_ret (pe_and (pe_cmpR op_eq (pe_ix ix_tup (pv 3) pe_int (fun _ _ => rfl)) (pe_ix ix_tup (pv 4) pe_int (fun _ _ => rfl)) (nomark _))
        (pe_one (pe_or (pe_def D2 hr rfl (pa_cons (pv 3) pa_nil) pass0) (pe_one (pe_def D2 hr rfl (pa_cons (pv 4) pa_nil) pass0))))))), ?_⟩
    obtain ⟨x1, e1⟩ := var_acc h5
    obtain ⟨x2, e2⟩ := var_acc h6
    refine q_par (evds_cons (evd_call (evds_cons (evd_var rfl hv) (evds1 (evd_var rfl hu))) ⟨p, t, a, rfl, h1, h2, rfl⟩) (evds1 (evd_call (evds_cons (evd_var rfl hv) (evds1 (evd_var rfl hx))) ⟨p, t', a', rfl, h3, h4, rfl⟩))) fun v1 v2 H1 f1 r1 r2 => ?_
    refine s_retR ((evd_and (evd_eqS (evd_ix (evd_var rfl r1) evd_int (insL_1 e1)) (evd_ix (evd_var rfl r2) evd_int (insL_1 e2)))
      fun _ => evd_or (evd_call (evds1 (evd_var rfl r1)) ⟨_, rfl, rfl⟩) fun _ => evd_call (evds1 (evd_var rfl r2)) ⟨_, rfl, rfl⟩).is ?_) fun v H2 f2 r => k v H2 (f1.trans f2) r
    congr 1
    unfold Ins.meets
    rw [h5, h6, e1, e2]
    simp
end
end RFW
end

section
set_option Elab.async false
set_option linter.all false
set_option maxRecDepth 100000
set_option maxHeartbeats 4000000
/-! pairs: queued, is_turnable. -/
namespace RFW
open PySem L2 Evl RF
/-! ### comprehensions over mapped data -/
theorem zf_mapG {α : Type} {D c : α → PyData} {f : α → Bool} {F : Nat → Bool} {C : Nat → PyData} : ∀ (xs : List α) (k : Nat), (∀ i x, xs[i]? = some x → F (k + i) = f x ∧ (f x = true → C (k + i) = c x)) →
    ((((xs.map D).zipIdx k).filter fun p => F p.2).map fun p => C p.2) = (xs.filter f).map c
  | [], _, _ => rfl
  | x :: r, k, h => by
    have h0 := h 0 x rfl
    rw [Nat.add_zero] at h0
    have ih := zf_mapG (D := D) (c := c) (f := f) (F := F) (C := C) r (k + 1) fun i y hy => by
      have := h (i + 1) y hy
      rw [Nat.add_assoc, Nat.add_comm 1 i]
      exact this
    rw [List.map_cons, List.zipIdx_cons, List.filter_cons, List.filter_cons]
    show List.map _ (if F k = true then _ else _) = _
    rw [h0.1]
    by_cases hf : f x = true
    · rw [if_pos hf, if_pos hf, List.map_cons, List.map_cons, ih]
      show C k :: _ = _
      rw [h0.2 hf]
    · rw [if_neg hf, if_neg hf, ih]
section
variable {K : PySem.W.Frag} {σ : L2.St} {H H' : Hp} {ta tb te : TE} {t u : TT}
theorem evld_mT {α : Type} {D : α → PyData} {xs : List α} {j : Nat} {ws : List Nat} {f : α → Bool} {c : α → PyData} (h : EvD ta σ H (.tuple (xs.map D))) (hz : xs.length ≤ 40000) (hw : ∀ x, wipe ((wipe σ ws).set j (some x)) ws = wipe σ ws)
    (ht : ∀ (x : V) (d : α) H1, Ex H H1 → d ∈ xs → Td H1 x (D d) → EvT t ((wipe σ ws).set j (some x)) H1 (f d))
    (he : ∀ (x : V) (d : α) H1, Ex H H1 → d ∈ xs → Td H1 x (D d) → f d = true → EvD te ((wipe σ ws).set j (some x)) H1 (c d)) :
    EvLd (tLc (iTup K ta) (gName j) t te ws) σ H ((xs.filter f).map c) := by
  have key : ∀ (i : Nat) (d : PyData), (xs.map D)[i]? = some d → ∃ y, xs[i]? = some y ∧ d = D y := fun i d hd => by
    rw [List.getElem?_map] at hd
    cases e : xs[i]? with
    | none => rw [e] at hd; cases hd
    | some y => rw [e] at hd; exact ⟨y, rfl, (Option.some.inj hd).symm⟩
  refine (evld_lcT (f := fun i _ => match xs[i]? with | some y => f y | none => false) (c := fun i _ => match xs[i]? with | some y => c y | none => .none) h (by rw [List.length_map]; exact hz) hw (fun i x d H1 e hd hx => ?_) (fun i x d H1 e hd hx hf => ?_)).is ?_
  · obtain ⟨y, hy, rfl⟩ := key i d hd
    simp only [hy]
    exact ht x y H1 e (List.mem_of_getElem? hy) hx
  · obtain ⟨y, hy, rfl⟩ := key i d hd
    simp only [hy] at hf ⊢
    exact he x y H1 e (List.mem_of_getElem? hy) hx hf
  · refine zf_mapG (F := fun i => match xs[i]? with | some y => f y | none => false) (C := fun i => match xs[i]? with | some y => c y | none => .none) xs 0 fun i x hx => ?_
    simp only [Nat.zero_add, hx]
    exact ⟨trivial, fun _ => trivial⟩
theorem evld_mL {α : Type} {D : α → PyData} {xs : List α} {j : Nat} {ws : List Nat} {f : α → Bool} {c : α → PyData} (h : EvR ta σ H (Ld (xs.map D))) (hz : xs.length ≤ 40000) (hw : ∀ x, wipe ((wipe σ ws).set j (some x)) ws = wipe σ ws)
    (ht : ∀ (x : V) (d : α) H1, Ex H H1 → d ∈ xs → Td H1 x (D d) → EvT t ((wipe σ ws).set j (some x)) H1 (f d))
    (he : ∀ (x : V) (d : α) H1, Ex H H1 → d ∈ xs → Td H1 x (D d) → f d = true → EvD te ((wipe σ ws).set j (some x)) H1 (c d)) :
    EvLd (tLc (iList K ta) (gName j) t te ws) σ H ((xs.filter f).map c) := by
  have key : ∀ (i : Nat) (d : PyData), (xs.map D)[i]? = some d → ∃ y, xs[i]? = some y ∧ d = D y := fun i d hd => by
    rw [List.getElem?_map] at hd
    cases e : xs[i]? with
    | none => rw [e] at hd; cases hd
    | some y => rw [e] at hd; exact ⟨y, rfl, (Option.some.inj hd).symm⟩
  refine (evld_lcL (f := fun i _ => match xs[i]? with | some y => f y | none => false) (c := fun i _ => match xs[i]? with | some y => c y | none => .none) h (by rw [List.length_map]; exact hz) hw (fun i x d H1 e hd hx => ?_) (fun i x d H1 e hd hx hf => ?_)).is ?_
  · obtain ⟨y, hy, rfl⟩ := key i d hd
    simp only [hy]
    exact ht x y H1 e (List.mem_of_getElem? hy) hx
  · obtain ⟨y, hy, rfl⟩ := key i d hd
    simp only [hy] at hf ⊢
    exact he x y H1 e (List.mem_of_getElem? hy) hx hf
  · refine zf_mapG (F := fun i => match xs[i]? with | some y => f y | none => false) (C := fun i => match xs[i]? with | some y => c y | none => .none) xs 0 fun i x hx => ?_
    simp only [Nat.zero_add, hx]
    exact ⟨trivial, fun _ => trivial⟩
theorem evt_yes : EvT tYes σ H true := fun H1 _ Q q => q H1 (Ex.refl H1)
theorem eod_some {i : Int} (h : EvD te σ H (.int i)) : EvO (tPart te) σ H (some i) := eo_some (ev_int h)
theorem evd_slN {tl th : TO} {α : Type} {D : α → PyData} {xs : List α} {a b : Nat} (h : EvD te σ H (.tuple (xs.map D))) (h1 : EvO tl σ H (some (a : Int))) (h2 : EvO th σ H (some (b : Int))) (ha : a ≤ xs.length) (hb : b ≤ xs.length) : EvD (tSl (rSlA K) te tl th) σ H (.tuple ((sl xs a b).map D)) := by
  refine (evd_sl h h1 h2).is ?_
  unfold cutD sl
  rw [HT.sIx_nat, HT.sIx_nat, List.length_map, Nat.min_eq_left ha, Nat.min_eq_left hb, List.map_take, List.map_drop]
end
theorem sl_mem {β : Type} {xs : List β} {a b : Nat} {x : β} (h : x ∈ sl xs a b) : x ∈ xs := List.mem_of_mem_drop (List.mem_of_mem_take h)
theorem sl_len {β : Type} {xs : List β} {a b : Nat} : (sl xs a b).length ≤ xs.length := by
  unfold sl; rw [List.length_take, List.length_drop]; omega
/-! ### words -/
theorem kd_st : ∀ k : Kd, decide (kdS k = "store") = decide (k = .store) := by intro k; cases k <;> decide +kernel
theorem kd_ld : ∀ k : Kd, decide (kdS k = "load") = decide (k = .load) := by intro k; cases k <;> decide +kernel
theorem isStore_w (i : I') : decide (insW i = "store") = i.isStore := by
  cases i with
  | acc kd y => exact (kd_st kd).trans (by cases kd <;> rfl)
  | fence => show decide (("fence" : Str) = "store") = false; decide +kernel
theorem isLoad_w (i : I') : decide (insW i = "load") = i.isLoad := by
  cases i with
  | acc kd y => exact (kd_ld kd).trans (by cases kd <;> rfl)
  | fence => show decide (("fence" : Str) = "load") = false; decide +kernel
theorem line_w : ∀ line : Bool, decide (wordS line = "line") = line := by intro l; cases l <;> decide +kernel
theorem lanes_w : ∀ line : Bool, decide (wordS line = "lanes") = !line := by intro l; cases l <;> decide +kernel
theorem acc_of_store {i : I'} (h : i.isStore = true) : i.isAcc = true := by
  cases i with
  | acc kd y => rfl
  | fence => cases h
theorem eq_var {i j : I'} {x y : Str} (h1 : i.var? = some x) (h2 : j.var? = some y) : decide (x = y) = decide (i.var? = j.var?) := by
  rw [h1, h2]
  exact decide_eq_decide.mpr ⟨fun h => by rw [h], fun h => Option.some.inj h⟩
theorem ixT {X : Cx} (K : PySem.W.Frag) (e : X.K = K := by rfl) : IxR X (rIxT K) := by subst e; exact ix_tup
theorem ixL {X : Cx} (K : PySem.W.Frag) (e : X.K = K := by rfl) : IxR X (rIxL K) := by subst e; exact ix_list
abbrev sQueued : Stmt := top 14
abbrev sTurn : Stmt := top 15
section
variable {P : Program} {w : World} {K : PySem.W.Frag} {mg : Str → Option Value} {base : Heap}
def fQueued : List PyData → PyData → Prop := fun ds d => ∃ (t : T') (line : Bool) (e l : Nat), ds = [thD t, .str (wordS line), .int (e : Int), .int (l : Int)] ∧ t.length ≤ 16 ∧ e < t.length ∧ l ≤ t.length ∧ (t.getD e .fence).isStore = true ∧ d = .int (queued t line e l : Nat)
theorem scQueued : FnScope ["instructions", "word", "early", "late", "some", "one"] ["instructions", "word", "early", "late"] (defScope sQueued) := ⟨rfl, rfl, rfl, by decide +kernel, rfl, by decide +kernel, by decide +kernel⟩
theorem ok_queued (T : Txt mg) (h : Here K mg "queued" sQueued ["instructions", "word", "early", "late"]) : DefOk P w K mg base "queued" ["instructions", "word", "early", "late"] 1 (SpD fQueued) := h.ok fun F => by
  refine F.ok scQueued (fun vs H Q E h => ?_) (fun cdv A outer s H vs Q E hr h => ?_)
  · obtain ⟨_, ⟨ds, d, r, ⟨t, line, e, l, rfl, _⟩, _⟩, _⟩ := h
    exact r.length
  · obtain ⟨_, ⟨ds, d, r, ⟨t, line, e, l, rfl, hz, he, hl, hs, rfl⟩, rfl⟩, k⟩ := h
    obtain ⟨v1, v2, v3, v4, rfl, r1, r2, r3, r4⟩ := r.inv4
    refine ⟨_, pss_cons (ps_setLc (own := [("one", 5)]) (g := gName 5) (i := 4) rfl scQueued.nd rfl rfl (sw_true rfl rfl rfl (by decide +kernel)) (pi_tup (pe_slice sl_tupA (pv 0) (po_some (pv 2)) (po_some (pv 3)))) (blkOk_by (N := ["instructions", "word", "early", "late", "some", "one"]) (sc := defScope sQueued) (by decide +kernel))
        (fun _ _ _ _ _ => pg_name (i := 5) scQueued.nd rfl (Or.inl rfl)) (fun _ _ _ _ _ => pts_one (pt_cmpR op_eq (pe_ix (ixT K) (pv 5) pe_int (fun _ _ => rfl)) (pe_gs T.STORE) (nomark _))) (fun _ _ _ _ _ => pv 5))
      (pss_one (ps_ret (pe_ifExp (pt_cmpR op_eq (pv 1) (pe_gs T.LINE) (nomark _)) (pe_callB call_len_seq (by rfl) T.len PySem.boot_len (pa_cons (pv 4) pa_nil))
        (pe_callB call_len_seq (by rfl) T.len PySem.boot_len (pa_cons (pe_lc (own := [("one", 5)]) (g := gName 5) rfl scQueued.nd (pi_list (pv 4)) (blkOk_by (N := ["instructions", "word", "early", "late", "some", "one"]) (sc := defScope sQueued) (by decide +kernel))
          (fun _ _ _ _ _ => pg_name (i := 5) scQueued.nd rfl (Or.inl rfl)) (fun _ _ _ _ _ => by exact pts_one (pt_cmpR op_eq (pe_ix (ixT K) (pv 5) pe_int (fun _ _ => rfl)) (pe_ix (ixT K) (pe_ix (ixT K) (pv 0) (pv 2) (fun _ _ => rfl)) pe_int (fun _ _ => rfl)) (nomark _))) (fun _ _ _ _ _ => pv 5)) pa_nil))))), ?_⟩
    obtain ⟨x0, e0⟩ := var_acc (acc_of_store hs)
    refine q_asgR (evld_mT (D := insD) (c := insD) (f := fun i => i.isStore) (evd_slN (evd_var rfl r1) (eod_some (evd_var rfl r3)) (eod_some (evd_var rfl r4)) (Nat.le_of_lt he) hl) (Nat.le_trans sl_len (by omega)) (fun x => rfl)
      (fun x d H1 e1 _ hx => et_is (evt_B (evd_eqS (evd_ix (evd_var rfl hx) evd_int (insL_0 d)) evd_str)) (isStore_w d)) (fun x d H1 e1 _ hx _ => evd_var rfl hx)).ld fun v H1 e1 hv => ?_
    refine s_retR (R := Dt (.int (queued t line e l : Nat))) ?_ fun v H2 e2 r => k v H2 (e1.trans e2) r
    have hlen : (List.filter (fun i => i.isStore) (sl t e l)).length ≤ 40000 := Nat.le_trans (List.length_filter_le _ _) (Nat.le_trans sl_len (by omega))
    refine evr_if (et_is (evt_B (evd_eqS (evd_var rfl (r2.ex e1)) evd_str)) (line_w line)) (fun hb => ?_) (fun hb => ?_)
    · refine (evd_lenL (ds := List.map insD (List.filter (fun i => i.isStore) (sl t e l))) (evr_var rfl fun H2 e2 => hv.ex e2)).is ?_
      subst hb
      unfold queued
      rw [List.length_map]; rfl
    · refine (evd_lenL (evld_mL (D := insD) (c := insD) (xs := List.filter (fun i => i.isStore) (sl t e l)) (f := fun i => decide (i.var? = (t.getD e .fence).var?)) (evr_var rfl fun H2 e2 => hv.ex e2) hlen (fun x => rfl)
        (fun x d H1 f1 hd hx => ?_) (fun x d H1 f1 hd hx _ => evd_var rfl hx)).ld).is ?_
      · obtain ⟨x1, hx1⟩ := var_acc (acc_of_store (List.mem_filter.mp hd).2)
        refine et_is (evt_B (evd_eqS (evd_ix (evd_var rfl hx) evd_int (insL_1 hx1)) (evd_ix (evd_ix (evd_var rfl (r1.ex (e1.trans f1))) (evd_var rfl (r3.ex (e1.trans f1))) (th_at he)) evd_int (insL_1 e0)))) (eq_var hx1 e0)
      · subst hb
        unfold queued
        rw [List.length_map]; rfl
end
end RFW
end

section
set_option Elab.async false
set_option linter.all false
set_option maxRecDepth 100000
set_option maxHeartbeats 4000000
/-! pairs: is_turnable, loose_pairs. -/
namespace RFW
open PySem L2 Evl RF
theorem hu65 {k : Nat} {A : Around} (r : Room k A) : A.units + 65 < cLine := by have := r.un; omega
theorem filter_yes {α : Type} (xs : List α) : xs.filter (fun _ => true) = xs := by simp
theorem eqv_ins {i : I'} {x : Str} : PyData.eqv (insD i) (.tuple [.str "store", .str x]) = (i.isStore && decide (i.var? = some x)) := by
  cases i with
  | fence => rfl
  | acc kd y =>
    show (PyData.eqv (.str (kdS kd)) (.str "store") && (PyData.eqv (.str y) (.str x) && true)) = _
    have h1 : PyData.eqv (.str (kdS kd)) (.str "store") = decide (kdS kd = "store") := rfl
    have h2 : PyData.eqv (.str y) (.str x) = decide (y = x) := rfl
    rw [h1, h2, kd_st, Bool.and_true]
    congr 1
    · cases kd <;> rfl
    · exact decide_eq_decide.mpr ⟨fun h => by rw [h]; rfl, fun h => Option.some.inj h⟩
theorem lay_str {x : Str} (h : PyData.strOk x = true) : PyData.canLay0 (.str x) = true := by
  unfold PyData.canLay0; exact h
theorem lay_kd : ∀ k : Kd, PyData.canLay0 (.str (kdS k)) = true := by intro k; cases k <;> decide +kernel
theorem lay_ins {i : I'} (h : VarOk i) : PyData.canLay0 (insD i) = true ∧ (insD i).depth ≤ 2 := by
  cases i with
  | fence => exact ⟨by decide +kernel, by decide +kernel⟩
  | acc kd y =>
    have := lay_str (h y rfl)
    have h2 := lay_kd kd
    constructor
    · show PyData.canLay0 (.tuple [.str (kdS kd), .str y]) = true
      simp only [PyData.canLay0, PyData.canLayAll0, Bool.and_true, Bool.and_eq_true] at this h2 ⊢
      exact ⟨h2, this⟩
    · show PyData.depth (.tuple [.str (kdS kd), .str y]) ≤ 2
      simp [PyData.depth, PyData.depthAll]
theorem lay_map {α : Type} {D : α → PyData} {n : Nat} : ∀ {xs : List α}, (∀ x ∈ xs, PyData.canLay0 (D x) = true ∧ (D x).depth ≤ n) → PyData.canLayAll0 (xs.map D) = true ∧ PyData.depthAll (xs.map D) ≤ n
  | [], _ => ⟨rfl, Nat.zero_le _⟩
  | x :: r, h => by
    have h1 := h x (List.mem_cons_self ..)
    have h2 := lay_map (xs := r) fun y hy => h y (List.mem_cons_of_mem _ hy)
    constructor
    · show PyData.canLayAll0 (D x :: r.map D) = true
      rw [PyData.canLayAll0, h1.1, h2.1]; rfl
    · show PyData.depthAll (D x :: r.map D) ≤ n
      rw [PyData.depthAll]
      exact Nat.max_le.mpr ⟨h1.2, h2.2⟩
theorem lay_tup {α : Type} {D : α → PyData} {n : Nat} {xs : List α} (h : ∀ x ∈ xs, PyData.canLay0 (D x) = true ∧ (D x).depth ≤ n) : PyData.canLay0 (.tuple (xs.map D)) = true ∧ (PyData.tuple (xs.map D)).depth ≤ n + 1 := by
  have k := lay_map h
  constructor
  · rw [PyData.canLay0]; exact k.1
  · rw [PyData.depth]; omega
theorem shaped_of {d : PyData} {n : Nat} (h : PyData.canLay0 d = true ∧ d.depth ≤ n) (hn : n ≤ 64) : SeqAt.shaped d = true := by
  unfold SeqAt.shaped
  rw [h.1, decide_eq_true (Nat.le_trans h.2 hn)]; rfl
section
variable {P : Program} {w : World} {K : PySem.W.Frag} {mg : Str → Option Value} {base : Heap}
def fTurn : List PyData → PyData → Prop := fun ds d => ∃ (t : T') (line : Bool) (e l : Nat), ds = [thD t, .str (wordS line), .int (e : Int), .int (l : Int)] ∧ t.length ≤ 16 ∧ (∀ i ∈ t, VarOk i) ∧ e < l ∧ l < t.length ∧ d = .bool (turnable t line e l)
theorem scTurn : FnScope ["instructions", "word", "early", "late", "first", "second", "one"] ["instructions", "word", "early", "late"] (defScope sTurn) := ⟨rfl, rfl, rfl, by decide +kernel, rfl, by decide +kernel, by decide +kernel⟩
theorem getD_mem' {t : T'} {i : Nat} (h : i < t.length) : t.getD i .fence ∈ t := by
  rw [List.getD_eq_getElem?_getD, List.getElem?_eq_getElem h]
  exact List.getElem_mem h
theorem ok_turn (T : Txt mg) (D1 : DefOk P w K mg base "is_access_to" ["instruction"] 1 (SpD fAcc)) (D2 : DefOk P w K mg base "empties" ["instruction"] 1 (SpD fEmp))
    (h : Here K mg "is_turnable" sTurn ["instructions", "word", "early", "late"]) : DefOk P w K mg base "is_turnable" ["instructions", "word", "early", "late"] 2 (SpD fTurn) := h.ok fun F => by
  refine F.ok scTurn (fun vs H Q E h => ?_) (fun cdv A outer s H vs Q E hr h => ?_)
  · obtain ⟨_, ⟨ds, d, r, ⟨t, line, e, l, rfl, _⟩, _⟩, _⟩ := h
    exact r.length
  · obtain ⟨_, ⟨ds, d, r, ⟨t, line, e, l, rfl, hz, hv, he, hl, rfl⟩, rfl⟩, k⟩ := h
    obtain ⟨v1, v2, v3, v4, rfl, r1, r2, r3, r4⟩ := r.inv4
    have hu := hu65 hr
    refine ⟨_, pss_cons (ps_par (by rfl) scTurn.nd (i := 4) (j := 5) rfl rfl (by decide) rfl rfl (pa_cons (pe_ix (ixT K) (pv 0) (pv 2) (fun _ _ => rfl)) (pa_cons (pe_ix (ixT K) (pv 0) (pv 3) (fun _ _ => rfl)) pa_nil)) (by rfl))
      (pss_cons (ps_if (PW.pt (pw_or (pt_cmpR op_ne (pe_ix (ixT K) (pv 4) pe_int (fun _ _ => rfl)) (pe_gs T.STORE) (nomark _)) (pw_or (pt_not (pt_val (pe_def D1 hr rfl (pa_cons (pv 5) pa_nil) pass0)))
          (pw_or1 (pt_cmpR op_eq (pe_ix (ixT K) (pv 4) pe_int (fun _ _ => rfl)) (pe_ix (ixT K) (pv 5) pe_int (fun _ _ => rfl)) (nomark _)))))) (pss_one (ps_ret pe_bl)) pss_nil)
      (pss_cons (ps_if (pt_val (pe_callB (cr_any rfl) (by rfl) T.any PyProof.Rows.boot_any (pa_cons (pe_lc (own := [("one", 6)]) (g := gName 6) (tt := tYes) rfl scTurn.nd (pi_tup (pe_slice sl_tupA (pv 0) (po_some (pe_op op_add (pv 2) pe_int)) (po_some (pe_op op_add (pv 3) pe_int))))
            (blkOk_by (N := ["instructions", "word", "early", "late", "first", "second", "one"]) (sc := defScope sTurn) (by decide +kernel))
          (fun _ _ _ _ _ => pg_name (i := 6) scTurn.nd rfl (Or.inl rfl)) (fun _ _ _ _ _ => pts_nil) (fun _ _ _ _ _ => pe_def D2 hr rfl (pa_cons (pv 6) pa_nil) pass0)) pa_nil))) (pss_one (ps_ret pe_bl)) pss_nil)
      (pss_one (ps_ret (pe_or (pe_cmpR op_eq (pv 1) (pe_gs T.LANES) (nomark _)) (pe_one (pe_and (pe_cmpR op_eq (pe_ix (ixT K) (pv 5) pe_int (fun _ _ => rfl)) (pe_gs T.LOAD) (nomark _))
        (pe_one (pe_cmpR (op_notInTd hu) (pe_tup (pa_cons (pe_gs T.STORE) (pa_cons (pe_ix (ixT K) (pv 5) pe_int (fun _ _ => rfl)) pa_nil))) (pe_slice sl_tupA (pv 0) (po_some (pe_op op_add (pv 2) pe_int)) (po_some (pv 3))) (by rfl))))))))
      )), ?_⟩
    have he2 : e < t.length := Nat.lt_trans he hl
    refine q_par (evds_cons (evd_ix (evd_var rfl r1) (evd_var rfl r3) (th_at he2)) (evds1 (evd_ix (evd_var rfl r1) (evd_var rfl r4) (th_at hl)))) fun u1 u2 H1 e1 s1 s2 => ?_
    have ex : turnable t line e l = (!((!(t.getD e .fence).isStore) || ((!(t.getD l .fence).isAcc) || decide ((t.getD e .fence).var? = (t.getD l .fence).var?))) && !((sl t (e + 1) (l + 1)).any Ins.empties) &&
        (!line || ((t.getD l .fence).isLoad && !((sl t (e + 1) l).any fun i => i.isStore && decide (i.var? = (t.getD l .fence).var?))))) := by
      unfold turnable
      simp only [Bool.not_or, Bool.not_not, Bool.and_assoc]
    rw [ex] at k
    have hva : (t.getD l .fence).isAcc = true → ∃ x, (t.getD l .fence).var? = some x := var_acc
    generalize hA : ((!(t.getD e .fence).isStore) || ((!(t.getD l .fence).isAcc) || decide ((t.getD e .fence).var? = (t.getD l .fence).var?))) = bA at k
    refine q_when (b := bA) (et_is (et_or (evt_B (evd_neS (evd_ix (evd_var rfl s1) evd_int (insL_0 _)) evd_str)) fun hb => et_or (et_not (evt_B (evd_call (evds1 (evd_var rfl s2)) ⟨_, rfl, rfl⟩))) fun hc => ?_) (by rw [isStore_w]; exact hA)) (fun hb H2 e2 => ?_) (fun hb H2 e2 => ?_)
    · rw [isStore_w] at hb
      obtain ⟨x1, h1⟩ := var_acc (acc_of_store (by simpa using hb : (t.getD e .fence).isStore = true))
      obtain ⟨x2, h2⟩ := hva (by simpa using hc)
      exact et_is (evt_B (evd_eqS (evd_ix (evd_var rfl s1) evd_int (insL_1 h1)) (evd_ix (evd_var rfl s2) evd_int (insL_1 h2)))) (eq_var h1 h2)
    · refine s_retR evd_bl fun v H3 e3 r => k v H3 ((e1.trans e2).trans e3) ?_
      rw [hb]; exact r
    · subst hb
      rw [Bool.or_eq_false_iff, Bool.or_eq_false_iff] at hA
      obtain ⟨hA1, hA2, hA3⟩ := hA
      obtain ⟨x2, h2⟩ := hva (by simpa using hA2)
      have e12 := e1.trans e2
      have eva : ∀ {σ : L2.St}, σ[2]? = some (some v3) → EvD (tOp (rI0 fun i j => .int (i + j)) (tVar 2) (tC (.int 1))) σ H2 (.int ((e + 1 : Nat) : Int)) := fun hs => (evd_I0 (g := fun i j => i + j) (evd_var hs (r3.ex e12)) evd_int).is (by congr 1)
      have evb : ∀ {σ : L2.St}, σ[3]? = some (some v4) → EvD (tOp (rI0 fun i j => .int (i + j)) (tVar 3) (tC (.int 1))) σ H2 (.int ((l + 1 : Nat) : Int)) := fun hs => (evd_I0 (g := fun i j => i + j) (evd_var hs (r4.ex e12)) evd_int).is (by congr 1)
      refine q_when (b := (sl t (e + 1) (l + 1)).any Ins.empties) (et_is (evt_B (evd_any (bs := (sl t (e + 1) (l + 1)).map Ins.empties) ((evld_mT (D := insD) (f := fun _ => true) (c := fun i => .bool i.empties) (evd_slN (evd_var rfl (r1.ex e12)) (eod_some (eva rfl)) (eod_some (evb rfl)) (by omega) (by omega)) (Nat.le_trans sl_len (by omega)) (fun _ => rfl)
        (fun x d H3 e3 hd hx => evt_yes) (fun x d H3 e3 hd hx _ => evd_call (evds1 (evd_var rfl hx)) ⟨_, rfl, rfl⟩)).is ?_).ld)) ?_) (fun hb H3 e3 => ?_) (fun hb H3 e3 => ?_)
      · rw [filter_yes, List.map_map]; rfl
      · rw [List.any_map]; rfl
      · refine s_retR evd_bl fun v H4 e4 r => k v H4 ((e12.trans e3).trans e4) ?_
        rw [hb]; exact r
      · rw [hb] at k
        have e13 := e12.trans e3
        refine s_retR ((evd_or (evd_eqS (evd_var rfl (r2.ex e13)) evd_str) fun h3 => evd_and (evd_eqS (evd_ix (evd_var rfl ((s2.ex e2).ex e3)) evd_int (insL_0 _)) evd_str) fun h4 =>
          evd_inT (evd_tup (evds_cons evd_str (evds1 (evd_ix (evd_var rfl ((s2.ex e2).ex e3)) evd_int (insL_1 h2)))) (by show 2 ≤ 100000; decide)) (evd_slN (evd_var rfl (r1.ex e13)) (eod_some ((eva rfl).mono e3)) (eod_some (evd_var rfl (r4.ex e13))) (by omega) (by omega)) ?_ ?_).is ?_) fun v H4 e4 r => k v H4 (e13.trans e4) r
        · refine shaped_of (lay_ins (i := .acc .store x2) fun y hy => ?_) (by decide)
          cases hy
          exact hv _ (getD_mem' hl) _ h2
        · exact shaped_of (lay_tup (D := insD) fun i hi => lay_ins (hv i (sl_mem hi))) (by decide)
        · show PyData.bool _ = PyData.bool _
          congr 1
          rw [lanes_w, isLoad_w, h2]
          simp only [if_true, Bool.not_false, Bool.true_and, List.any_map]
          congr 3
          congr 1
          funext i
          exact eqv_ins
end
end RFW
end

section
set_option Elab.async false
set_option linter.all false
set_option maxRecDepth 100000
set_option maxHeartbeats 4000000
/-! A list that grows. -/
namespace RFW
open PySem L2 Evl
/-- l is new since H0, and holds out; all else of H0 stands -/
def Gr (H0 : Hp) (l : Addr) (out : List PyData) (H : Hp) : Prop := H0 l = none ∧ Ex H0 H ∧ ∃ vs, H l = some (.lst vs) ∧ TdAll H vs out
section
variable {H0 H H1 H' : Hp} {l : Addr} {out ds es : List PyData} {v : V} {d : PyData}
theorem Gr.ext (g : Gr H0 l out H) (e : Ex H H1) : Gr H0 l out H1 := by
  obtain ⟨a, b, vs, c, r⟩ := g
  exact ⟨a, b.trans e, vs, e _ _ c, r.ex e⟩
theorem Gr.base (h : H0 l = none) (e : Ex H0 H) (hl : H l = some (.lst [])) : Gr H0 l [] H := ⟨h, e, [], hl, .nil⟩
theorem Gr.exx (g : Gr H0 l out H) : Ex H0 H := g.2.1
theorem Gr.tk (g : Gr H0 l out H) : TK H0 H := TK.ex g.2.1
theorem Gr.is (g : Gr H0 l out H) (e : out = ds) : Gr H0 l ds H := e ▸ g
theorem Gr.from {Hb : Hp} (g : Gr H0 l out H) (e : Ex Hb H0) : Gr Hb l out H := by
  obtain ⟨a, b, vs, c, r⟩ := g
  exact ⟨fresh_back e a, e.trans b, vs, c, r⟩
theorem Gr.ld (g : Gr H0 l out H) (hz : out.length ≤ 100000) : Ld out (.ref l) H := by
  obtain ⟨a, b, vs, c, r⟩ := g
  exact ⟨l, vs, rfl, c, by rw [r.length]; exact hz, r⟩
section
variable {K : PySem.W.Frag} {σ : L2.St} {ta te : TE} {D : Ends} {tz : TS}
theorem s_appD (g : Gr H0 l out H) (ha : σ[i]? = some (some (.ref l))) (h : EvD te σ H d) (hz : out.length < 100000) (k : ∀ H1, Gr H0 l (out ++ [d]) H1 → TK H H1 → D.nx σ H1) :
    tDrop (tBM K "list" rAppend (tVar i) (tCons te tNil)) D σ H := by
  obtain ⟨a, b, vs, c, r⟩ := g
  refine ⟨_, ha, Or.inl ⟨rfl, vs, sq_of c⟩, h H (Ex.refl H) _ fun v H2 e2 hv => ⟨l, vs, v, rfl, rfl, e2 _ _ c, sz_lt (by rw [r.length]; exact hz), k _ ?_ ((TK.ex e2).trans (TK.lst (e2 _ _ c)))⟩⟩
  have kk : TK H2 (upd H2 l (.lst (vs ++ [v]))) := TK.lst (e2 _ _ c)
  exact ⟨a, Ex.mut (b.trans e2) a, _, upd_same, ((r.ex e2).keep kk).append (.one (hv.keep kk))⟩
theorem q_appD (g : Gr H0 l out H) (ha : σ[i]? = some (some (.ref l))) (h : EvD te σ H d) (hz : out.length < 100000) (k : ∀ H1, Gr H0 l (out ++ [d]) H1 → TK H H1 → tz D σ H1) :
    tSeq (tDrop (tBM K "list" rAppend (tVar i) (tCons te tNil))) tz D σ H := s_appD (D := { D with nx := tz D }) g ha h hz k
theorem q_asgLd {i : Nat} (h : EvLd te σ H ds) (k : ∀ p H1, Gr H p ds H1 → tz D (σ.set i (some (.ref p))) H1) : tSeq (tAsg te (gName i)) tz D σ H :=
  h H (Ex.refl H) _ fun p vs H1 hp e h1 hz r => k p H1 ⟨hp, e, vs, h1, r⟩
end
end
theorem flat_len {α β : Type} {f : α → List β} {n : Nat} : ∀ {l : List α}, (∀ x ∈ l, (f x).length ≤ n) → (l.flatMap f).length ≤ n * l.length
  | [], _ => Nat.zero_le _
  | x :: r, h => by
    rw [List.flatMap_cons, List.length_append, List.length_cons, Nat.mul_succ, Nat.add_comm]
    exact Nat.add_le_add (flat_len fun y hy => h y (List.mem_cons_of_mem _ hy)) (h x (List.mem_cons_self ..))
end RFW
end

section
set_option Elab.async false
set_option linter.all false
set_option maxRecDepth 100000
set_option maxHeartbeats 4000000
/-! pairs: loose_pairs. -/
namespace RFW
open PySem L2 Evl RF
def boxD (line : Bool) (room : Nat) : PyData := .tuple [.str (wordS line), .int (room : Int)]
def triD (q : Tri) : PyData := .tuple [.int (q.1 : Int), .int (q.2.1 : Int), .int (q.2.2 : Int)]
theorem looseE_len {t : T'} {line : Bool} {room k e : Nat} : (looseE t line room k e).length ≤ t.length := by
  unfold looseE
  rw [List.length_map]
  refine Nat.le_trans (List.length_filter_le _ _) ?_
  rw [List.length_range']; omega
theorem looseT_len {t : T'} {line : Bool} {room k : Nat} (hz : t.length ≤ 16) : (looseT t line room k).length ≤ 256 := by
  unfold looseT
  refine Nat.le_trans (flat_len fun x _ => looseE_len) ?_
  rw [List.length_range]
  exact Nat.mul_le_mul hz hz
theorem looseFrom_len {line : Bool} {room : Nat} : ∀ {p : P'} {k : Nat}, (∀ t ∈ p, t.length ≤ 16) → (looseFrom line room k p).length ≤ 256 * p.length
  | [], _, _ => Nat.zero_le _
  | t :: r, k, h => by
    rw [looseFrom, List.length_append, List.length_cons, Nat.mul_succ, Nat.add_comm]
    exact Nat.add_le_add (looseFrom_len fun y hy => h y (List.mem_cons_of_mem _ hy)) (looseT_len (h t (List.mem_cons_self ..)))
theorem loose_len {p : P'} {line : Bool} {room : Nat} (h : ProgOk p) : (loose p line room).length ≤ 2000 := by
  have h1 := looseFrom_len (line := line) (room := room) (k := 0) h.short
  have := h.few
  unfold loose
  omega
abbrev sLoose : Stmt := top 16
section
variable {P : Program} {w : World} {K : PySem.W.Frag} {mg : Str → Option Value} {base : Heap}
def fLoose : List PyData → PyData → Prop := fun ds d => ∃ (p : P') (line : Bool) (room : Nat), ds = [progD p, boxD line room] ∧ ProgOk p ∧ d = .tuple ((loose p line room).map triD)
theorem scLoose : FnScope ["program", "buffers", "word", "room", "found", "thread", "instructions", "early", "late"] ["program", "buffers"] (defScope sLoose) := ⟨rfl, rfl, rfl, by decide +kernel, rfl, by decide +kernel, by decide +kernel⟩
def okAt (line : Bool) (room : Nat) (t : T') (e l : Nat) : Bool := looseAt t line room e l
/-- what is found ahead of (i, e, l) -/
def pre1 (p : P') (line : Bool) (room i : Nat) : List Tri := looseFrom line room 0 (p.take i)
def pre2 (t : T') (line : Bool) (room i e : Nat) : List Tri := (List.range e).flatMap (looseE t line room i)
def pre3 (t : T') (line : Bool) (room i e l : Nat) : List Tri := ((List.range' (e + 1) (l - (e + 1))).filter (looseAt t line room e)).map fun l => (i, e, l)
theorem pre1_succ {p : P'} {line : Bool} {room i : Nat} {t : T'} (h : p[i]? = some t) : pre1 p line room (i + 1) = pre1 p line room i ++ looseT t line room i := by
  unfold pre1
  have hi : i < p.length := (List.getElem?_eq_some_iff.mp h).1
  rw [List.take_add_one, h, Option.toList_some, looseFrom_append, List.length_take, Nat.min_eq_left (Nat.le_of_lt hi), Nat.zero_add]
  simp [looseFrom]
theorem pre2_succ {t : T'} {line : Bool} {room i e : Nat} : pre2 t line room i (e + 1) = pre2 t line room i e ++ looseE t line room i e := by
  unfold pre2
  rw [List.range_succ, List.flatMap_append]; simp
theorem pre3_succ {t : T'} {line : Bool} {room i e l : Nat} (h : e + 1 ≤ l) : pre3 t line room i e (l + 1) = if looseAt t line room e l = true then pre3 t line room i e l ++ [(i, e, l)] else pre3 t line room i e l := by
  unfold pre3
  have e1 : l + 1 - (e + 1) = (l - (e + 1)) + 1 := by omega
  have e2 : e + 1 + 1 * (l - (e + 1)) = l := by omega
  rw [e1, List.range'_concat, e2, List.filter_append, List.map_append, List.filter_cons, List.filter_nil]
  split <;> simp
theorem pre3_len {t : T'} {line : Bool} {room i e l : Nat} : (pre3 t line room i e l).length ≤ l := by
  unfold pre3
  rw [List.length_map]
  refine Nat.le_trans (List.length_filter_le _ _) ?_
  rw [List.length_range']; omega
theorem pre2_len {t : T'} {line : Bool} {room i e : Nat} : (pre2 t line room i e).length ≤ t.length * e := by
  unfold pre2
  refine Nat.le_trans (flat_len fun x _ => looseE_len) ?_
  rw [List.length_range]
  exact Nat.le_refl _
theorem pre1_len {p : P'} {line : Bool} {room i : Nat} (h : ProgOk p) : (pre1 p line room i).length ≤ 2000 := by
  have h1 := looseFrom_len (line := line) (room := room) (k := 0) (p := p.take i) fun t ht => h.short t (List.mem_of_mem_take ht)
  have h2 := h.few
  rw [List.length_take] at h1
  unfold pre1
  omega
theorem ok_loose (T : Txt mg) (D1 : DefOk P w K mg base "is_turnable" ["instructions", "word", "early", "late"] 2 (SpD fTurn)) (D2 : DefOk P w K mg base "queued" ["instructions", "word", "early", "late"] 1 (SpD fQueued))
    (h : Here K mg "loose_pairs" sLoose ["program", "buffers"]) : DefOk P w K mg base "loose_pairs" ["program", "buffers"] 3 (SpD fLoose) := h.ok fun F => by
  refine F.ok scLoose (fun vs H Q E h => ?_) (fun cdv A outer s H vs Q E hr h => ?_)
  · obtain ⟨_, ⟨ds, d, r, ⟨p, line, room, rfl, _⟩, _⟩, _⟩ := h
    exact r.length
  · obtain ⟨_, ⟨ds, d, r, ⟨p, line, room, rfl, ok, rfl⟩, rfl⟩, k⟩ := h
    obtain ⟨v1, v2, rfl, r1, r2⟩ := r.inv2
    have hu := hu65 hr
    have nd := scLoose.nd
    refine ⟨_, pss_cons (ps_asg (pv 1) (pg_tup (by rfl) (pgs_cons (pg_name (i := 2) nd rfl (.inl rfl)) (pgs_cons (pg_name (i := 3) nd rfl (.inl rfl)) pgs_nil))))
      (pss_cons (ps_set (i := 4) nd rfl (Or.inl rfl) (pe_lst pa_nil))
      (pss_cons (ps_for PassesOwn.never rfl (pi_enumT rfl T.enum (pa_cons (pv 0) pa_nil)) (pg_tup (by rfl) (pgs_cons (pg_name (i := 5) nd rfl (.inl rfl)) (pgs_cons (pg_name (i := 6) nd rfl (.inl rfl)) pgs_nil)))
        (pss_one (ps_for PassesOwn.never rfl (pi_range1 rfl T.range (pa_cons (pe_callB call_len_seq (by rfl) T.len PySem.boot_len (pa_cons (pv 6) pa_nil)) pa_nil)) (pg_name (i := 7) nd rfl (.inl rfl))
          (pss_one (ps_for PassesOwn.never rfl (pi_range2 rfl T.range (pa_cons (pe_op op_add (pv 7) pe_int) (pa_cons (pe_callB call_len_seq (by rfl) T.len PySem.boot_len (pa_cons (pv 6) pa_nil)) pa_nil))) (pg_name (i := 8) nd rfl (.inl rfl))
            (pss_one (ps_if (PW.pt (pw_and (pt_val (pe_def D1 (hr.mono (by decide)) rfl (pa_cons (pv 6) (pa_cons (pv 2) (pa_cons (pv 7) (pa_cons (pv 8) pa_nil)))) pass0)) (pw_and1 (pt_cmpR op_le (pe_def D2 (hr.mono (by decide)) rfl (pa_cons (pv 6) (pa_cons (pv 2) (pa_cons (pv 7) (pa_cons (pv 8) pa_nil)))) pass0) (pv 3) (nomark _)))))
              (pss_one (ps_expr (pe_bm PySem.F.plainAttrs_list PySem.F.slot_list_append PySem.F.type_list_append mt_append (pv 4) (pa_cons (pe_tup (pa_cons (pv 5) (pa_cons (pv 7) (pa_cons (pv 8) pa_nil)))) pa_nil)))) pss_nil)))))))
      (pss_one (ps_ret (pe_callTy call_tuple_of (by rfl) T.tuple PyProof.Rows.boot_tuple (pa_cons (pv 4) pa_nil)))))), ?_⟩
    refine q_tup2 (evd_var rfl r2) fun wv rv H1 e1 s2 s3 => ?_
    refine q_asgLd (evld_lst evds_nil (by decide)) fun L H2 g0 => ?_
    have R1 := r1.ex e1
    -- the outer loop
    refine q_forE (evds1 (evd_var rfl (R1.ex g0.exx))) (fun Hx i σ' H' => Ex H2 Hx ∧ TK Hx H' ∧ Gr H1 L ((pre1 p line room i).map triD) H' ∧ ∃ x5 x6 x7 x8, σ' = [some v1, some v2, some wv, some rv, some (.ref L), x5, x6, x7, x8])
      (fun Hx ex => ⟨ex, TK.refl _, g0.ext ex, _, _, _, _, rfl⟩) (fun Hx i σ' H' ⟨_, b, _⟩ => b) (fun Hx i x d σ' H' Tt ex hd hx ⟨ex2, tk, g, x5, x6, x7, x8, es⟩ hT => ?_) (fun Hx σ' H' ex ⟨ex2, tk, g, x5, x6, x7, x8, es⟩ => ?_)
    · subst es
      rw [List.getElem?_map] at hd
      obtain ⟨t, ht, rfl⟩ := Option.map_eq_some_iff.mp hd
      have htm : t ∈ p := List.mem_of_getElem? ht
      have hz := ok.short t htm
      have hx1 : Td (upd H' Tt (.tup [.int (i : Nat), x])) x (thD t) := hx.ex (Ex.new hT)
      have gT := g.ext (Ex.new hT (o := .tup [.int (i : Nat), x]))
      refine s_forR (evds1 (evd_len (evd_var rfl hx1))) (by rw [List.length_map]; omega) (fun e σ' H'' => TK Hx H'' ∧ TK (upd H' Tt (.tup [.int (i : Nat), x])) H'' ∧ Gr H1 L ((pre1 p line room i ++ pre2 t line room i e).map triD) H'' ∧ ∃ x7 x8, σ' = [some v1, some v2, some wv, some rv, some (.ref L), some (.int (i : Nat)), some x, x7, x8])
        (fun H3 e3 => ⟨(tk.trans (TK.new hT)).trans (TK.ex e3), TK.ex e3, (gT.ext e3).is (by simp [pre2]), _, _, rfl⟩) (fun e σ' H3 he ⟨ktk, tk3, g3, x7', x8', es⟩ => ?_) (fun σ' H3 ⟨ktk, tk3, g3, x7', x8', es⟩ => ?_)
      · subst es
        rw [List.length_map] at he
        have hx3 : Td H3 x (thD t) := hx1.keep tk3
        refine s_forR2' (a := e + 1) (n := t.length) (evds_cons ((evd_I0 (g := fun i j => i + j) (evd_var rfl (.int _)) evd_int).is rfl) (evds1 ((evd_len (evd_var rfl hx3)).is (by rw [List.length_map])))) ⟨by omega, by omega⟩
          (fun l σ' H'' => TK Hx H'' ∧ TK H3 H'' ∧ Gr H1 L (((pre1 p line room i ++ pre2 t line room i e) ++ pre3 t line room i e l).map triD) H'' ∧ ∃ x8, σ' = [some v1, some v2, some wv, some rv, some (.ref L), some (.int (i : Nat)), some x, some (.int (e : Nat)), x8])
          (fun H4 e4 => ⟨ktk.trans (TK.ex e4), TK.ex e4, (g3.ext e4).is (by simp [pre3]), _, rfl⟩) (fun l σ' H4 hl1 hl ⟨ktk4, tk4, g4, x8'', es⟩ => ?_) (fun σ' H4 ⟨ktk4, tk4, g4, x8'', es⟩ => ?_)
        · subst es
          have hx4 := hx3.keep tk4
          have ew : EvD (tVar 2) [some v1, some v2, some wv, some rv, some (.ref L), some (.int (i : Nat)), some x, some (.int (e : Nat)), some (.int (l : Nat))] H4 (.str (wordS line)) := evd_var rfl (s2.ex g4.exx)
          refine s_when (b := looseAt t line room e l) (et_is (et_and (evt_B (evd_call (evds_cons (evd_var rfl hx4) (evds_cons ew (evds_cons (evd_var rfl (.int _)) (evds1 (evd_var rfl (.int _)))))) ⟨t, line, e, l, rfl, hz, fun j hj => ok.vars t htm j hj, by omega, hl, rfl⟩)) fun hb =>
            evt_B (evd_I0b (g := fun i j => decide (i ≤ j)) (evd_call (evds_cons (evd_var rfl hx4) (evds_cons ew (evds_cons (evd_var rfl (.int _)) (evds1 (evd_var rfl (.int _)))))) ⟨t, line, e, l, rfl, hz, by omega, by omega, ?_, rfl⟩) (evd_var rfl (s3.ex g4.exx)))) ?_) (fun hb H5 e5 => ?_) (fun hb H5 e5 => ?_)
          · unfold turnable at hb
            simp only [Bool.and_eq_true] at hb
            exact hb.1.1.1.1
          · unfold looseAt
            congr 1
            exact decide_eq_decide.mpr Int.ofNat_le
          · refine s_appD (g4.ext e5) rfl (evd_tup (ds := [.int (i : Nat), .int (e : Nat), .int (l : Nat)]) (evds_cons (evd_var rfl (.int _)) (evds_cons (evd_var rfl (.int _)) (evds1 (evd_var rfl (.int _))))) (by show 3 ≤ 100000; decide)) ?_ fun H6 g6 tk6 => ?_
            · have l1 := pre1_len (line := line) (room := room) (i := i) ok
              have l2 := pre2_len (t := t) (line := line) (room := room) (i := i) (e := e)
              have l3 := pre3_len (t := t) (line := line) (room := room) (i := i) (e := e) (l := l)
              have l4 := Nat.mul_le_mul hz (show e ≤ 16 by omega)
              simp only [List.length_map, List.length_append]
              omega
            · refine ⟨(ktk4.trans (TK.ex e5)).trans tk6, (tk4.trans (TK.ex e5)).trans tk6, g6.is ?_, _, rfl⟩
              rw [pre3_succ hl1, if_pos hb]
              simp [triD]
          · refine ⟨ktk4.trans (TK.ex e5), tk4.trans (TK.ex e5), (g4.ext e5).is ?_, _, rfl⟩
            rw [pre3_succ hl1, if_neg (by rw [hb]; decide)]
        · refine ⟨ktk4, tk3.trans tk4, g4.is ?_, _, _, es⟩
          rw [pre2_succ, List.append_assoc]
          rfl
      · rw [List.length_map] at g3
        refine ⟨ex2, ktk, g3.is ?_, _, _, _, _, es⟩
        rw [pre1_succ ht]
        rfl
    · subst es
      rw [List.length_map] at g
      have hl : ((loose p line room).map triD).length ≤ 100000 := by
        rw [List.length_map]
        exact Nat.le_trans (loose_len ok) (by decide)
      have g' : Gr H1 L ((loose p line room).map triD) H' := g.is (by unfold pre1 loose; rw [List.take_length])
      refine s_retR (evd_tupL (evr_var rfl fun H9 e9 => (g'.ld hl).ex e9)) fun v H9 e9 rv => k v H9 (e1.trans (g'.exx.trans e9)) rv
end
end RFW
end

section
set_option Elab.async false
set_option linter.all false
set_option maxRecDepth 100000
set_option maxHeartbeats 4000000
/-! pairs: first_meeting, exits_from. -/
namespace RFW
open PySem L2 Evl RF
abbrev sFirst : Stmt := top 17
abbrev sExits : Stmt := top 18
def optD : Option Nat → PyData
  | none => .none
  | some n => .int (n : Int)
theorem firstMeet_none {a : I'} {t : T'} (h : ∀ j, j < t.length → a.meets (t.getD j .fence) = false) : firstMeet a t = none := by
  unfold firstMeet
  rw [List.findIdx?_eq_none_iff]
  intro x hx
  obtain ⟨j, hj, rfl⟩ := List.getElem_of_mem hx
  have := h j hj
  rw [List.getD_eq_getElem?_getD, List.getElem?_eq_getElem hj] at this
  exact this
theorem firstMeet_some {a : I'} {t : T'} {i : Nat} (hi : i < t.length) (h : ∀ j, j < i → a.meets (t.getD j .fence) = false) (h2 : a.meets (t.getD i .fence) = true) : firstMeet a t = some i := by
  unfold firstMeet
  rw [List.findIdx?_eq_some_iff_getElem]
  refine ⟨hi, ?_, fun j hj => ?_⟩
  · rw [List.getD_eq_getElem?_getD, List.getElem?_eq_getElem hi] at h2
    exact h2
  · have := h j hj
    rw [List.getD_eq_getElem?_getD, List.getElem?_eq_getElem (Nat.lt_trans hj hi)] at this
    show ¬ (a.meets _ = true)
    rw [Bool.not_eq_true]
    exact this
theorem exit_first {t : T'} {e : Nat} : ∀ {j : Nat}, e ≤ j → j < t.length → (t.getD j .fence).isAcc = true → ∃ j0, j0 ≤ j ∧ IsExit t e j0 ∧ (t.getD j0 .fence).sort = (t.getD j .fence).sort := by
  intro j
  induction j using Nat.strongRecOn with
  | ind j ih =>
    intro h1 h2 h3
    by_cases hx : ∃ i, e ≤ i ∧ i < j ∧ (t.getD i .fence).sort = (t.getD j .fence).sort
    · obtain ⟨i, i1, i2, i3⟩ := hx
      have ha : (t.getD i .fence).isAcc = true := by
        obtain ⟨x, hx⟩ := var_acc h3
        have : (t.getD i .fence).var? = (t.getD j .fence).var? := congrArg Prod.fst i3
        rw [hx] at this
        cases hc : t.getD i .fence with
        | acc k y => rfl
        | fence => rw [hc] at this; cases this
      obtain ⟨j0, a1, a2, a3⟩ := ih i i2 i1 (Nat.lt_trans i2 h2) ha
      exact ⟨j0, Nat.le_trans a1 (Nat.le_of_lt i2), a2, a3.trans i3⟩
    · exact ⟨j, Nat.le_refl _, ⟨h1, h2, h3, fun i i1 i2 i3 => hx ⟨i, i1, i2, i3⟩⟩, rfl⟩
section
variable {P : Program} {w : World} {K : PySem.W.Frag} {mg : Str → Option Value} {base : Heap}
def fFirst : List PyData → PyData → Prop := fun ds d => ∃ (p : P') (t a o : Nat), ds = [progD p, plD t a, .int (o : Int)] ∧ ProgOk p ∧ t < p.length ∧ a < (th p t).length ∧ (ins p t a).isAcc = true ∧ o < p.length ∧ d = optD (firstMeet (ins p t a) (th p o))
theorem scFirst : FnScope ["program", "place", "thread", "at", "instruction"] ["program", "place", "thread"] (defScope sFirst) := ⟨rfl, rfl, rfl, by decide +kernel, rfl, by decide +kernel, by decide +kernel⟩
theorem ok_first (T : Txt mg) (D1 : DefOk P w K mg base "is_access_to" ["instruction"] 1 (SpD fAcc)) (D2 : DefOk P w K mg base "meets" ["program", "one", "other"] 2 (SpD fMeets))
    (h : Here K mg "first_meeting" sFirst ["program", "place", "thread"]) : DefOk P w K mg base "first_meeting" ["program", "place", "thread"] 3 (SpD fFirst) := h.ok fun F => by
  refine F.ok scFirst (fun vs H Q E h => ?_) (fun cdv A outer s H vs Q E hr h => ?_)
  · obtain ⟨_, ⟨ds, d, r, ⟨p, t, a, o, rfl, _⟩, _⟩, _⟩ := h
    exact r.length
  · obtain ⟨_, ⟨ds, d, r, ⟨p, t, a, o, rfl, ok, ht, ha, hac, ho, rfl⟩, rfl⟩, k⟩ := h
    obtain ⟨v1, v2, v3, rfl, r1, r2, r3⟩ := r.inv3
    have nd := scFirst.nd
    refine ⟨_, pss_cons (ps_for PassesOwn.never rfl (pi_enumT rfl T.enum (pa_cons (pe_ix (ixT K) (pv 0) (pv 2) (fun _ _ => rfl)) pa_nil)) (pg_tup (by rfl) (pgs_cons (pg_name (i := 3) nd rfl (.inl rfl)) (pgs_cons (pg_name (i := 4) nd rfl (.inl rfl)) pgs_nil)))
        (pss_one (ps_if (PW.pt (pw_and (pt_val (pe_def D1 (hr.mono (by decide)) rfl (pa_cons (pv 4) pa_nil) pass0)) (pw_and1 (pt_val (pe_def D2 (hr.mono (by decide)) rfl (pa_cons (pv 0) (pa_cons (pv 1) (pa_cons (pe_tup (pa_cons (pv 2) (pa_cons (pv 3) pa_nil))) pa_nil))) pass0)))))
          (pss_one (ps_ret (pv 3))) pss_nil)))
      (pss_one (ps_ret pe_non)), ?_⟩
    have hz : (th p o).length ≤ 16 := ok.short _ (th_mem ho)
    refine q_forE (evds1 (evd_ix (evd_var rfl r1) (evd_var rfl r3) (prog_at ho))) (fun Hx i σ' H' => Ex H Hx ∧ Ex Hx H' ∧ (∀ j, j < i → (ins p t a).meets ((th p o).getD j .fence) = false) ∧ ∃ x3 x4, σ' = [some v1, some v2, some v3, x3, x4])
      (fun Hx ex => ⟨ex, Ex.refl _, fun j hj => absurd hj (Nat.not_lt_zero _), _, _, rfl⟩) (fun Hx i σ' H' ⟨_, b, _⟩ => TK.ex b) (fun Hx i x d σ' H' Tt ex hd hx ⟨ex2, tk, g, x3, x4, es⟩ hT => ?_) (fun Hx σ' H' ex ⟨ex2, tk, g, x3, x4, es⟩ => ?_)
    · subst es
      rw [List.getElem?_map] at hd
      obtain ⟨i1, hi1, rfl⟩ := Option.map_eq_some_iff.mp hd
      have hi : i < (th p o).length := (List.getElem?_eq_some_iff.mp hi1).1
      have hg : (th p o).getD i .fence = i1 := by rw [List.getD_eq_getElem?_getD, hi1]; rfl
      have eT := Ex.new hT (o := .tup [.int (i : Nat), x])
      have ee := (ex2.trans tk).trans eT
      generalize hb : (i1.isAcc && (ins p t a).meets i1) = b
      have hb2 : b = (ins p t a).meets i1 := by
        rw [← hb]
        unfold Ins.meets
        cases i1.isAcc <;> simp
      refine s_when (b := b) (et_is (et_and (evt_B (evd_call (evds1 (evd_var rfl (hx.ex eT))) ⟨i1, rfl, rfl⟩)) fun hc => evt_B (evd_call (evds_cons (evd_var rfl (r1.ex ee)) (evds_cons (evd_var rfl (r2.ex ee)) (evds1 (evd_tup (ds := [.int (o : Int), .int (i : Nat)]) (evds_cons (evd_var rfl (r3.ex ee)) (evds1 (evd_var rfl (.int _)))) (by show 2 ≤ 100000; decide)))))
        ⟨p, t, a, o, i, rfl, ht, ha, ho, hi, hac, by show ((th p o).getD i .fence).isAcc = true; rw [hg]; exact hc, rfl⟩)) (by show (i1.isAcc && (ins p t a).meets ((th p o).getD i .fence)) = b; rw [hg]; exact hb)) (fun hb' H2 e2 => ?_) (fun hb' H2 e2 => ?_)
      · refine s_retR (evd_var (d := .int (i : Nat)) rfl (.int _)) fun v H3 e3 rv => k v H3 ((ee.trans e2).trans e3) ?_
        rw [firstMeet_some hi g (by rw [hg, ← hb2]; exact hb')]
        exact rv
      · refine ⟨ex2, (tk.trans eT).trans e2, fun j hj => ?_, _, _, rfl⟩
        rcases Nat.lt_succ_iff_lt_or_eq.mp hj with h1 | rfl
        · exact g j h1
        · rw [hg, ← hb2]; exact hb'
    · subst es
      rw [List.length_map] at g
      refine s_retR evd_non fun v H3 e3 rv => k v H3 ((ex2.trans tk).trans e3) ?_
      rw [firstMeet_none g]
      exact rv

/-- a new list of the exits -/
def pExits (vs : List V) (H : Hp) (R : Rel) : Prop := ∃ (t : T') (e : Nat), TdAll H vs [thD t, .int (e : Int)] ∧ t.length ≤ 16 ∧ e ≤ t.length ∧
  R = fun v H' => ∃ ns : List Nat, Ld (ns.map fun n : Nat => PyData.int (n : Int)) v H' ∧ ns.length ≤ 16 ∧ ∀ a, a ∈ ns ↔ IsExit t e a
theorem scExits : FnScope ["instructions", "entry", "found", "at"] ["instructions", "entry"] (defScope sExits) := ⟨rfl, rfl, rfl, by decide +kernel, rfl, by decide +kernel, by decide +kernel⟩
/-- what setdefault has kept ahead of i -/
structure XInv (P : Program) (w : World) (H0 : Hp) (d : Addr) (t : T') (e i : Nat) (xs : List XE) (H : Hp) : Prop where
  new : H0 d = none
  ex : Ex H0 H
  at' : H d = some (xD P w d xs)
  keys : xKeys H xs
  len : xs.length ≤ i
  val : ∀ x ∈ xs, ∃ a : Nat, x.2.2 = (a : Int) ∧ IsExit t e a ∧ a < i ∧ some x.1.1 = (t.getD a .fence).var? ∧ x.1.2 = (t.getD a .fence).isLoad
  all : ∀ a, IsExit t e a → a < i → ∃ x ∈ xs, x.2.2 = (a : Int) ∧ some x.1.1 = (t.getD a .fence).var? ∧ x.1.2 = (t.getD a .fence).isLoad
theorem XInv.ext {H0 H H' : Hp} {d : Addr} {t : T'} {e i : Nat} {xs : List XE} (x : XInv P w H0 d t e i xs H) (f : Ex H H') : XInv P w H0 d t e i xs H' :=
  ⟨x.new, x.ex.trans f, f _ _ x.at', fun p hp => f _ _ (x.keys p hp), x.len, x.val, x.all⟩
theorem XInv.skip {H0 H : Hp} {d : Addr} {t : T'} {e i : Nat} {xs : List XE} (x : XInv P w H0 d t e i xs H) (h : ¬ IsExit t e i) : XInv P w H0 d t e (i + 1) xs H :=
  ⟨x.new, x.ex, x.at', x.keys, by have := x.len; omega, fun y hy => by
    obtain ⟨a, a1, a2, a3, a4⟩ := x.val y hy
    exact ⟨a, a1, a2, by omega, a4⟩, fun a ha hlt => by
    rcases Nat.lt_succ_iff_lt_or_eq.mp hlt with h1 | rfl
    · exact x.all a ha h1
    · exact absurd ha h⟩
theorem XInv.put {H0 H : Hp} {d b : Addr} {t : T'} {e i : Nat} {xs : List XE} {y : Str} (x : XInv P w H0 d t e i xs H) (h : IsExit t e i) (hy : (t.getD i .fence).var? = some y) (hb : H b = some (.tup [.str y, .bl (t.getD i .fence).isLoad])) :
    XInv P w H0 d t e (i + 1) (xs ++ [((y, (t.getD i .fence).isLoad), b, (i : Int))]) (upd H d (xD P w d (xs ++ [((y, (t.getD i .fence).isLoad), b, (i : Int))]))) := by
  refine ⟨x.new, Ex.mut x.ex x.new, upd_same, fun p hp => ?_, ?_, fun z hz => ?_, fun a ha hlt => ?_⟩
  · rcases List.mem_append.mp hp with hp | hp
    · rw [upd_ne (ne_of (x.keys p hp) x.at' (by intro z; cases z))]
      exact x.keys p hp
    · cases List.mem_singleton.mp hp
      rw [upd_ne (ne_of hb x.at' (by intro z; cases z))]
      exact hb
  · rw [List.length_append, List.length_singleton]; have := x.len; omega
  · rcases List.mem_append.mp hz with hz | hz
    · obtain ⟨a, a1, a2, a3, a4⟩ := x.val z hz
      exact ⟨a, a1, a2, by omega, a4⟩
    · cases List.mem_singleton.mp hz
      exact ⟨i, rfl, h, Nat.lt_succ_self _, hy.symm, rfl⟩
  · rcases Nat.lt_succ_iff_lt_or_eq.mp hlt with h1 | rfl
    · obtain ⟨z, hz, h2⟩ := x.all a ha h1
      exact ⟨z, List.mem_append_left _ hz, h2⟩
    · exact ⟨_, List.mem_append_right _ (List.mem_singleton.mpr rfl), rfl, hy.symm, rfl⟩
theorem ok_exits (T : Txt mg) (D1 : DefOk P w K mg base "is_access_to" ["instruction"] 1 (SpD fAcc)) (h : Here K mg "exits_from" sExits ["instructions", "entry"]) : DefOk P w K mg base "exits_from" ["instructions", "entry"] 2 (SpG pExits) := h.ok fun F => by
  refine F.ok scExits (fun vs H Q E h => ?_) (fun cdv A outer s H vs Q E hr h => ?_)
  · obtain ⟨_, ⟨t, e, r, _⟩, _⟩ := h
    exact r.length
  · obtain ⟨_, ⟨t, e, r, hz, he, rfl⟩, k⟩ := h
    obtain ⟨v1, v2, rfl, r1, r2⟩ := r.inv2
    have nd := scExits.nd
    have hu := hu65 hr
    refine ⟨_, pss_cons (ps_set (i := 2) nd rfl (Or.inl rfl) pe_dnewX)
      (pss_cons (ps_for PassesOwn.never rfl (pi_range2 rfl T.range (pa_cons (pv 1) (pa_cons (pe_callB call_len_seq (by rfl) T.len PySem.boot_len (pa_cons (pv 0) pa_nil)) pa_nil))) (pg_name (i := 3) nd rfl (.inl rfl))
        (pss_one (ps_if (pt_val (pe_def D1 hr rfl (pa_cons (pe_ix (ixT K) (pv 0) (pv 3) (fun _ _ => rfl)) pa_nil) pass0))
          (pss_one (ps_expr (pe_xset (by show _ < _; exact Nat.lt_of_le_of_lt (Nat.add_le_add_left (by decide) _) hu) (pv 2) (pa_cons (pe_tup (pa_cons (pe_ix (ixT K) (pe_ix (ixT K) (pv 0) (pv 3) (fun _ _ => rfl)) pe_int (fun _ _ => rfl)) (pa_cons (pe_cmpR op_eq (pe_ix (ixT K) (pe_ix (ixT K) (pv 0) (pv 3) (fun _ _ => rfl)) pe_int (fun _ _ => rfl)) (pe_gs T.LOAD) (nomark _)) pa_nil))) (pa_cons (pv 3) pa_nil)))))
          pss_nil)))
      (pss_one (ps_ret (pe_callB (cr_sorted_x rfl (Nat.lt_of_le_of_lt (Nat.add_le_add_left (by decide) _) hu)) (by rfl) T.sorted PyProof.Rows.boot_sorted (pa_cons (pe_xvals (pv 2)) pa_nil))))), ?_⟩
    refine fun d hd => ?_
    refine s_forR2' (D := { nx := _, rt := _, bk := _, ct := _ }) (a := e) (n := t.length) (evds_cons (evd_var rfl (r2.ex (Ex.new hd))) (evds1 ((evd_len (evd_var rfl (r1.ex (Ex.new hd)))).is (by rw [List.length_map])))) ⟨he, by omega⟩
      (fun i σ' H' => ∃ xs x3, XInv P w H d t e i xs H' ∧ σ' = [some v1, some v2, some (.ref d), x3]) (fun H1 e1 => ⟨[], _, ⟨hd, (Ex.new hd).trans e1, e1 _ _ upd_same, fun p hp => (by cases hp), Nat.zero_le _, fun p hp => (by cases hp), fun a ha hlt => absurd ha.1 (Nat.not_le.mpr hlt)⟩, rfl⟩)
      (fun i σ' H' hi1 hi ⟨xs, x3, x, es⟩ => ?_) (fun σ' H' ⟨xs, x3, x, es⟩ => ?_)
    · subst es
      have R1 := r1.ex x.ex
      refine s_when (evt_B (evd_call (evds1 (evd_ix (evd_var rfl R1) (evd_var rfl (.int _)) (th_at hi))) ⟨_, rfl, rfl⟩)) (fun hb H2 e2 => ?_) (fun hb H2 e2 => ⟨xs, _, (x.ext e2).skip (fun z => by rw [z.2.2.1] at hb; cases hb), rfl⟩)
      obtain ⟨y, hy⟩ := var_acc hb
      have x2 := x.ext e2
      refine ⟨_, rfl, ⟨d, xs, rfl, x2.at'⟩, ?_⟩
      refine evds_cons (evd_tup (evds_cons (evd_ix (evd_ix (evd_var rfl (r1.ex x2.ex)) (evd_var rfl (.int _)) (th_at hi)) evd_int (insL_1 hy)) (evds1 (evd_eqS (evd_ix (evd_ix (evd_var rfl (r1.ex x2.ex)) (evd_var rfl (.int _)) (th_at hi)) evd_int (insL_0 _)) evd_str))) (by show 2 ≤ 100000; decide)) (evds1 (evd_var rfl (.int _))) H2 (Ex.refl _) _ fun vs H3 e3 rv => ?_
      obtain ⟨a1, a2, rfl, s1, s2⟩ := rv.inv2
      obtain ⟨b, zs, rfl, hb', _, s3⟩ := s1.tup_inv
      obtain ⟨z1, z2, rfl, s4, s5⟩ := s3.inv2
      rw [s4.str_inv, s5.bl_inv, isLoad_w] at hb'
      rw [s2.int_inv]
      have x3 := x2.ext e3
      refine ⟨d, b, xs, (y, (t.getD i .fence).isLoad), (i : Nat), rfl, rfl, x3.at', x3.keys, hb', by have := x3.len; omega, fun ⟨p, hp, he⟩ m => ⟨xs, _, x3.skip fun z => ?_, rfl⟩, fun hn => ⟨_, _, x3.put ?_ hy hb', rfl⟩⟩
      · obtain ⟨a, a1, a2, a3, a4, a5⟩ := x3.val p hp
        refine z.2.2.2 a a2.1 a3 ?_
        show (_, _) = (_, _)
        rw [← a4, ← a5, he, hy]
      · refine ⟨hi1, hi, hb, fun j hj1 hj2 hs => ?_⟩
        have hja : (t.getD j .fence).isAcc = true := by
          have : (t.getD j .fence).var? = (t.getD i .fence).var? := congrArg Prod.fst hs
          rw [hy] at this
          cases hc : t.getD j .fence with
          | acc k y => rfl
          | fence => rw [hc] at this; cases this
        obtain ⟨j0, b1, b2, b3⟩ := exit_first hj1 (Nat.lt_trans hj2 hi) hja
        obtain ⟨q, hq, q1, q2, q3⟩ := x3.all j0 b2 (Nat.lt_of_le_of_lt b1 hj2)
        refine hn q hq ?_
        have b4 := b3.trans hs
        have c1 : (t.getD j0 .fence).var? = (t.getD i .fence).var? := congrArg Prod.fst b4
        have c2 : (t.getD j0 .fence).isLoad = (t.getD i .fence).isLoad := congrArg Prod.snd b4
        rw [c1, hy] at q2
        rw [c2] at q3
        exact Prod.ext (Option.some.inj q2) q3
    · subst es
      refine ⟨_, rfl, d, xs, rfl, rfl, x.at', fun pv' hpv => ⟨pv', d, xs, rfl, upd_same, ?_, fun l ns hl pm => ?_⟩⟩
      · rw [upd_ne (ne_of_none x.at' hpv)]
        exact x.at'
      · have hlen : ns.length ≤ 16 := by rw [pm.length_eq, List.length_map]; have := x.len; omega
        have hnn : ∀ n ∈ ns, ∃ a : Nat, n = (a : Int) := fun n hn => by
          obtain ⟨z, hz, rfl⟩ := List.mem_map.mp (pm.mem_iff.mp hn)
          obtain ⟨a, ha, _⟩ := x.val z hz
          exact ⟨a, ha⟩
        have hns : ns = (ns.map Int.toNat).map (fun n : Nat => (n : Int)) := by
          rw [List.map_map]
          refine (List.map_id' ns).symm.trans (List.map_congr_left fun n hn => ?_)
          obtain ⟨a, rfl⟩ := hnn n hn
          rfl
        refine k _ _ ((x.ex.trans (Ex.new hpv)).trans (Ex.new hl)) ⟨ns.map Int.toNat, ⟨l, ns.map .int, rfl, upd_same, by rw [List.length_map]; omega, ?_⟩, by rw [List.length_map]; exact hlen, fun a => ?_⟩
        · have : (ns.map Int.toNat).map (fun n : Nat => PyData.int (n : Int)) = ns.map .int := by
            conv => rhs; rw [hns]
            rw [List.map_map, List.map_map, List.map_map]; rfl
          rw [this]
          exact TdAll.ints ns
        · constructor
          · intro ha
            obtain ⟨n, hn, rfl⟩ := List.mem_map.mp ha
            obtain ⟨z, hz, rfl⟩ := List.mem_map.mp (pm.mem_iff.mp hn)
            obtain ⟨a, h1, h2, _⟩ := x.val z hz
            rw [h1]
            exact h2
          · intro ha
            obtain ⟨z, hz, h1, _⟩ := x.all a ha ha.2.1
            refine List.mem_map.mpr ⟨(a : Int), pm.mem_iff.mpr (List.mem_map.mpr ⟨z, hz, h1⟩), rfl⟩
end
end RFW
end

section
set_option Elab.async false
set_option linter.all false
set_option maxRecDepth 100000
set_option maxHeartbeats 4000000
/-! Objects, their attributes, dicts with keys of numbers; what stands but for one place. -/
namespace RFW
open PySem L2 Evl
/-- all but d stands -/
def ExB (d : Addr) (H H' : Hp) : Prop := ∀ a o, H a = some o → a ≠ d → H' a = some o
theorem ExB.refl (d : Addr) (H : Hp) : ExB d H H := fun _ _ h _ => h
theorem ExB.trans {d : Addr} {H H1 H2 : Hp} (a : ExB d H H1) (b : ExB d H1 H2) : ExB d H H2 := fun x o h n => b x o (a x o h n) n
theorem ExB.of {d : Addr} {H H' : Hp} (e : Ex H H') : ExB d H H' := fun a o h _ => e a o h
theorem ExB.upd {d : Addr} {H : Hp} {o : HO} : ExB d H (upd H d o) := fun a u h n => by rw [upd_ne n]; exact h
theorem ExB.ex {d : Addr} {H0 H H' : Hp} (e : ExB d H H') (e0 : Ex H0 H) (h : H0 d = none) : Ex H0 H' := fun a o ha => e a o (e0 a o ha) (ne_of_none ha h)
/-- ints as data, as keys -/
def intsT (k : List Nat) : PyData := .tuple (k.map fun n : Nat => .int (n : Int))
def kI (k : List Nat) : List Key := k.map fun n : Nat => (Sum.inl (n : Int) : Key)
theorem kI_inj {a b : List Nat} (h : kI a = kI b) : a = b := by
  unfold kI at h
  refine (List.map_inj_right fun x y e => ?_).mp h
  injection e with e
  exact Int.ofNat.inj e
theorem kI_V (k : List Nat) : (kI k).map kV = k.map fun n : Nat => V.int (n : Int) := by
  unfold kI; rw [List.map_map]; rfl
theorem Td.key {H : Hp} {v : V} {k : List Nat} (h : Td H v (intsT k)) : ∃ b, v = .ref b ∧ H b = some (.tup ((kI k).map kV)) := by
  obtain ⟨b, xs, rfl, hb, _, r⟩ := Td.tup_inv h
  refine ⟨b, rfl, ?_⟩
  have e : k.map (fun n : Nat => PyData.int (n : Int)) = (k.map fun n : Nat => (n : Int)).map .int := by rw [List.map_map]; rfl
  rw [e] at r
  rw [kI_V, hb, r.ints_inv, List.map_map]
  rfl
/-- a dict from lists of numbers -/
structure DF {β : Type} (R : V → β → Prop) (kvs : List (List Key × V)) (f : List Nat → Option β) : Prop where
  nd : (kvs.map (·.1)).Nodup
  ks : ∀ kv ∈ kvs, ∃ k : List Nat, kv.1 = kI k ∧ f k ≠ none
  so : ∀ k v, valV kvs (kI k) = some v → ∃ x, f k = some x ∧ R v x
  no : ∀ k, valV kvs (kI k) = none → f k = none
def setF {β : Type} (f : List Nat → Option β) (k : List Nat) (x : β) : List Nat → Option β := fun j => if j = k then some x else f j
section
variable {β : Type} {R R' : V → β → Prop} {kvs : List (List Key × V)} {f : List Nat → Option β}
theorem DF.nil : DF R [] (fun _ => none) := ⟨List.nodup_nil, fun _ h => (by cases h), fun k v h => (by cases h), fun _ _ => rfl⟩
theorem DF.imp (h : DF R kvs f) (k : ∀ v x, R v x → R' v x) : DF R' kvs f := ⟨h.nd, h.ks, fun j v e => by
  obtain ⟨x, e1, e2⟩ := h.so j v e
  exact ⟨x, e1, k _ _ e2⟩, h.no⟩
theorem DF.val (h : DF R kvs f) {k : List Nat} {x : β} (e : f k = some x) : ∃ v, valV kvs (kI k) = some v ∧ R v x := by
  cases hv : valV kvs (kI k) with
  | none => rw [h.no k hv] at e; cases e
  | some v =>
    obtain ⟨y, e1, e2⟩ := h.so k v hv
    rw [e] at e1; cases e1
    exact ⟨v, rfl, e2⟩
theorem DF.isSome (h : DF R kvs f) (k : List Nat) : (valV kvs (kI k)).isSome = (f k).isSome := by
  cases hv : valV kvs (kI k) with
  | none => rw [h.no k hv]; rfl
  | some v =>
    obtain ⟨y, e1, e2⟩ := h.so k v hv
    rw [e1]; rfl
theorem putK_keys {kvs : List (List Key × V)} {k : List Key} {v : V} (h : valV kvs k ≠ none) : (putK kvs k v).map (·.1) = kvs.map (·.1) := by
  unfold putK
  rw [valV_any, if_pos (by cases e : valV kvs k with | none => exact absurd e h | some _ => rfl), List.map_map]
  refine List.map_congr_left fun p _ => ?_
  show (if p.1 = k then (p.1, v) else p).1 = p.1
  split <;> rfl
theorem DF.put (h : DF R kvs f) {k : List Nat} {v : V} {x : β} (hr : R v x) : DF R (putK kvs (kI k) v) (setF f k x) := by
  refine ⟨?_, fun kv hkv => ?_, fun j u e => ?_, fun j e => ?_⟩
  · cases hv : valV kvs (kI k) with
    | none => exact nd_putK v h.nd hv
    | some u => rw [putK_keys (by rw [hv]; exact fun z => (by cases z))]; exact h.nd
  · have hm : kv.1 ∈ (putK kvs (kI k) v).map (·.1) := List.mem_map.mpr ⟨kv, hkv, rfl⟩
    have key : kv.1 ∈ kvs.map (·.1) ∨ kv.1 = kI k := by
      cases hv : valV kvs (kI k) with
      | none =>
        rw [putK_new v hv, List.map_append] at hm
        rcases List.mem_append.mp hm with hm | hm
        · exact .inl hm
        · exact .inr (List.mem_singleton.mp hm)
      | some u => rw [putK_keys (by rw [hv]; exact fun z => (by cases z))] at hm; exact .inl hm
    rcases key with hm | e
    · obtain ⟨kv', h1, h2⟩ := List.mem_map.mp hm
      obtain ⟨j, h3, h4⟩ := h.ks kv' h1
      refine ⟨j, by rw [← h2, h3], ?_⟩
      unfold setF
      split
      · exact fun z => (by cases z)
      · exact h4
    · refine ⟨k, e, ?_⟩
      unfold setF
      rw [if_pos rfl]
      exact fun z => (by cases z)
  · rw [valV_put] at e
    unfold setF
    by_cases hj : j = k
    · subst hj
      rw [if_pos rfl] at e ⊢
      cases e
      exact ⟨x, rfl, hr⟩
    · rw [if_neg (fun z => hj (kI_inj z))] at e
      rw [if_neg hj]
      exact h.so j u e
  · rw [valV_put] at e
    unfold setF
    by_cases hj : j = k
    · subst hj
      rw [if_pos rfl] at e
      cases e
    · rw [if_neg (fun z => hj (kI_inj z))] at e
      rw [if_neg hj]
      exact h.no j e
/-- a code for short lists of small numbers -/
theorem DF.few (h : DF R kvs f) (g : List Nat → Nat) (N : Nat) (hg : ∀ k, f k ≠ none → g k < N) (hi : ∀ j k, f j ≠ none → f k ≠ none → g j = g k → j = k) : kvs.length ≤ N := by
  have dec : ∀ kv ∈ kvs, ∃ k : List Nat, kv.1 = kI k ∧ f k ≠ none := h.ks
  let toN : List Key → List Nat := fun l => l.map fun x => match x with | .inl i => i.toNat | .inr _ => 0
  have tk : ∀ k, toN (kI k) = k := fun k => by
    show (k.map _).map _ = k
    rw [List.map_map]
    refine (List.map_congr_left fun n _ => ?_).trans (List.map_id k)
    rfl
  have nd : ((kvs.map (·.1)).map fun l => g (toN l)).Nodup := by
    unfold List.Nodup
    rw [List.pairwise_map]
    refine List.Pairwise.imp_of_mem ?_ h.nd
    intro a b ha hb hab e
    obtain ⟨p, hp, rfl⟩ := List.mem_map.mp ha
    obtain ⟨q, hq, rfl⟩ := List.mem_map.mp hb
    obtain ⟨j, j1, j2⟩ := dec p hp
    obtain ⟨k, k1, k2⟩ := dec q hq
    rw [j1, k1, tk, tk] at e
    exact hab (by rw [j1, k1, hi j k j2 k2 e])
  have sub : ((kvs.map (·.1)).map fun l => g (toN l)) ⊆ List.range N := fun n hn => by
    obtain ⟨l, hl, rfl⟩ := List.mem_map.mp hn
    obtain ⟨p, hp, rfl⟩ := List.mem_map.mp hl
    obtain ⟨j, j1, j2⟩ := dec p hp
    rw [j1, tk]
    exact List.mem_range.mpr (hg j j2)
  have := nd.length_le_of_subset sub
  rw [List.length_map, List.length_map, List.length_range] at this
  exact this
end
/-- such a dict in the heap, its values data -/
def DA {β : Type} (D : β → PyData) (H : Hp) (d : Addr) (f : List Nat → Option β) : Prop := ∃ kvs, H d = some (.dT kvs) ∧ DF (fun v x => Td H v (D x)) kvs f
theorem ExB.tk {d : Addr} {H H' : Hp} {kvs : List (List Key × V)} (e : ExB d H H') (h : H d = some (.dT kvs)) : TK H H' := fun a xs ha => e a _ ha (fun z => by rw [z, h] at ha; cases ha)
section
variable {β : Type} {D : β → PyData} {H H' : Hp} {d : Addr} {f : List Nat → Option β}
theorem DA.ex (h : DA D H d f) (e : Ex H H') : DA D H' d f := by
  obtain ⟨kvs, h1, h2⟩ := h
  exact ⟨kvs, e _ _ h1, h2.imp fun v x r => r.ex e⟩
theorem DA.tk (h : DA D H d f) (e : ExB d H H') : TK H H' := by
  obtain ⟨kvs, h1, h2⟩ := h
  exact e.tk h1
theorem DA.is {g : List Nat → Option β} (h : DA D H d f) (e : f = g) : DA D H d g := e ▸ h
end
section
variable {K : PySem.W.Frag} {σ : L2.St} {H H' : Hp} {ta tb te td ty tv : TE} {β : Type} {DD : β → PyData} {f : List Nat → Option β} {d x C dx : Addr} {fs : List (Str × V)} {k : List Nat} {D : Ends} {tz : TS} {v : V}
theorem ev_ref {i : Nat} {a : Addr} (h : σ[i]? = some (some (.ref a))) : Ev (tVar i) σ H (.ref a) := ev_var h
/-- o.f -/
theorem ev_fld {a : Str} (h : Ev ta σ H (.ref x)) (ho : H x = some (.ins C dx fs)) (c : Cls K C) (n : NoAttr K C a) (l : fs.lookup a = some v) : Ev (tFld K ta a) σ H v := fun H1 e Q q => h H1 e _ fun H2 e2 => ⟨x, C, dx, fs, v, rfl, (e.trans e2) _ _ ho, c, n, l, q H2 e2⟩
theorem evd_fld {a : Str} {d' : PyData} (h : Ev ta σ H (.ref x)) (ho : H x = some (.ins C dx fs)) (c : Cls K C) (n : NoAttr K C a) (l : fs.lookup a = some v) (hv : Td H v d') : EvD (tFld K ta a) σ H d' := evr_ev (ev_fld h ho c n l) fun H1 e => hv.ex e
/-- k in d, k not in d, d[k] -/
theorem evd_din (hk : EvD ty σ H (intsT k)) (hd : Ev td σ H (.ref d)) (h : DA DD H d f) : EvD (tDIn ty td) σ H (.bool (f k).isSome) := fun H1 e1 Q q =>
  hk H1 e1 _ fun y H2 e2 r => hd H2 (e1.trans e2) _ fun H3 e3 => by
    obtain ⟨kvs, h1, h2⟩ := h.ex ((e1.trans e2).trans e3)
    obtain ⟨b, rfl, hb⟩ := (r.ex e3).key
    exact ⟨d, _, rfl, DGet.t h1 hb, q _ H3 (e2.trans e3) (by rw [h2.isSome]; exact .bl _)⟩
theorem evd_dnotin (hk : EvD ty σ H (intsT k)) (hd : Ev td σ H (.ref d)) (h : DA DD H d f) : EvD (tDNotIn ty td) σ H (.bool (!(f k).isSome)) := fun H1 e1 Q q =>
  hk H1 e1 _ fun y H2 e2 r => hd H2 (e1.trans e2) _ fun H3 e3 => by
    obtain ⟨kvs, h1, h2⟩ := h.ex ((e1.trans e2).trans e3)
    obtain ⟨b, rfl, hb⟩ := (r.ex e3).key
    exact ⟨d, _, rfl, DGet.t h1 hb, q _ H3 (e2.trans e3) (by rw [h2.isSome]; exact .bl _)⟩
theorem evd_dget {y : β} (hd : Ev td σ H (.ref d)) (hk : EvD ty σ H (intsT k)) (h : DA DD H d f) (e : f k = some y) : EvD (tDGet td ty) σ H (DD y) := fun H1 e1 Q q =>
  hd H1 e1 _ fun H2 e2 => hk H2 (e1.trans e2) _ fun u H3 e3 r => by
    obtain ⟨kvs, h1, h2⟩ := h.ex ((e1.trans e2).trans e3)
    obtain ⟨b, rfl, hb⟩ := r.key
    obtain ⟨v, hv, hr⟩ := h2.val e
    exact ⟨d, v, rfl, by rw [← hv]; exact DGet.t h1 hb, q v H3 (e2.trans e3) hr⟩
/-- d[k] = v -/
theorem s_dput {y : β} (hv : EvD tv σ H (DD y)) (hd : Ev td σ H (.ref d)) (hk : EvD ty σ H (intsT k)) (h : DA DD H d f) (hl : ∀ kvs H1, Ex H H1 → H1 d = some (.dT kvs) → DF (fun v x => Td H1 v (DD x)) kvs f → kvs.length < sizeLine)
    (q : ∀ H1, ExB d H H1 → DA DD H1 d (setF f k y) → D.nx σ H1) : sDPut td ty tv D σ H :=
  hv H (Ex.refl H) _ fun v H1 e1 r1 => hd H1 e1 _ fun H2 e2 => hk H2 (e1.trans e2) _ fun u H3 e3 r3 => by
    have e13 := (e1.trans e2).trans e3
    obtain ⟨kvs, h1, h2⟩ := h.ex e13
    obtain ⟨b, rfl, hb⟩ := r3.key
    refine ⟨d, _, rfl, DPut.t h1 hb (hl kvs H3 e13 h1 h2), q _ ((ExB.of e13).trans ExB.upd) ?_⟩
    have kk : TK H3 (upd H3 d (.dT (putK kvs (kI k) v))) := TK.dT h1
    exact ⟨_, upd_same, DF.put (h2.imp fun v x r => r.keep kk) ((r1.ex (e2.trans e3)).keep kk)⟩
theorem q_dput {y : β} (hv : EvD tv σ H (DD y)) (hd : Ev td σ H (.ref d)) (hk : EvD ty σ H (intsT k)) (h : DA DD H d f) (hl : ∀ kvs H1, Ex H H1 → H1 d = some (.dT kvs) → DF (fun v x => Td H1 v (DD x)) kvs f → kvs.length < sizeLine)
    (q : ∀ H1, ExB d H H1 → DA DD H1 d (setF f k y) → tz D σ H1) : tSeq (sDPut td ty tv) tz D σ H := s_dput (D := { D with nx := tz D }) hv hd hk h hl q
/-- o.m(..), what stood stands -/
theorem evr_meth {m : Str} {Pre : List V → Hp → Rel → Prop} {R : Rel} {E : XK} {tA : TA} {ds : List PyData} (h : Ev ta σ H (.ref x)) (ho : H x = some (.ins C dx fs)) (no : fs.lookup m = none) (ha : EvDs tA σ H ds)
    (hp : ∀ vs H1, Ex H H1 → TdAll H1 vs ds → Pre (.ref x :: vs) H1 R) : EvR (tMeth C m (SpG Pre) [] E ta tA) σ H R := fun H1 e Q q =>
  h H1 e _ fun H2 e2 => ⟨x, dx, fs, rfl, (e.trans e2) _ _ ho, no, ha H2 (e.trans e2) _ fun vs H3 e3 r => ⟨R, by rw [List.append_nil]; exact hp vs H3 ((e.trans e2).trans e3) r, fun v H4 e4 k => q v H4 ((e2.trans e3).trans e4) k⟩⟩
/-- o.m(..) as a statement, any promise -/
theorem s_meth {m : Str} {sp : Sp} {E : XK} {tA : TA} {ds : List PyData} (h : Ev ta σ H (.ref x)) (ho : H x = some (.ins C dx fs)) (no : fs.lookup m = none) (ha : EvDs tA σ H ds)
    (hp : ∀ vs H1, Ex H H1 → TdAll H1 vs ds → sp (.ref x :: vs) H1 (fun _ H2 => D.nx σ H2) E) : tDrop (tMeth C m sp [] E ta tA) D σ H :=
  h H (Ex.refl H) _ fun H2 e2 => ⟨x, dx, fs, rfl, e2 _ _ ho, no, ha H2 e2 _ fun vs H3 e3 r => by
    rw [List.append_nil]
    exact hp vs H3 (e2.trans e3) r⟩
theorem q_meth {m : Str} {sp : Sp} {E : XK} {tA : TA} {ds : List PyData} (h : Ev ta σ H (.ref x)) (ho : H x = some (.ins C dx fs)) (no : fs.lookup m = none) (ha : EvDs tA σ H ds)
    (hp : ∀ vs H1, Ex H H1 → TdAll H1 vs ds → sp (.ref x :: vs) H1 (fun _ H2 => tz D σ H2) E) : tSeq (tDrop (tMeth C m sp [] E ta tA)) tz D σ H := s_meth (D := { D with nx := tz D }) h ho no ha hp
/-- C(..): a new object -/
theorem evr_make {sp : Sp} {R : Rel} {E : XK} {tA : TA} {ds : List PyData} (ha : EvDs tA σ H ds)
    (hp : ∀ vs H1 x dx, Ex H H1 → TdAll H1 vs ds → H1 x = none → H1 dx = none → dx ≠ x → ∀ Q : VK, (∀ H2, Ex H1 H2 → R (.ref x) H2 → Q .non H2) → sp (.ref x :: vs) (upd (upd H1 dx (.own x)) x (.ins C dx [])) Q E) : EvR (tMake C sp [] E tA) σ H R := fun H1 e Q q =>
  ha H1 e _ fun vs H2 e2 r x dx nx ndx ne => by
    rw [List.append_nil]
    exact hp vs H2 x dx (e.trans e2) r nx ndx ne _ fun H3 e3 k => ⟨rfl, q _ H3 (e2.trans e3) k⟩
/-- o.f = e -/
theorem s_fldR {a : Str} {R : Rel} (hv : EvR tv σ H R) (hx : σ[i]? = some (some (.ref x))) (ho : H x = some (.ins C dx fs)) (c : Cls K C) (n : NoAttr K C a) (hl : fs.length < 1000)
    (q : ∀ v H1, Ex H H1 → R v H1 → D.nx σ (upd H1 x (.ins C dx (putF a v fs)))) : sFld K (tVar i) tv a D σ H :=
  hv H (Ex.refl H) _ fun v H1 e r => ⟨_, hx, x, C, dx, fs, rfl, e _ _ ho, c, n, hl, q v H1 e r⟩
theorem q_fldR {a : Str} {R : Rel} (hv : EvR tv σ H R) (hx : σ[i]? = some (some (.ref x))) (ho : H x = some (.ins C dx fs)) (c : Cls K C) (n : NoAttr K C a) (hl : fs.length < 1000)
    (q : ∀ v H1, Ex H H1 → R v H1 → tz D σ (upd H1 x (.ins C dx (putF a v fs)))) : tSeq (sFld K (tVar i) tv a) tz D σ H := s_fldR (D := { D with nx := tz D }) hv hx ho c n hl q
end
end RFW
end

section
set_option Elab.async false
set_option linter.all false
set_option maxRecDepth 100000
set_option maxHeartbeats 4000000
/-! Ways, in plain terms: what enter and go_on do to the entries. -/
namespace RFW
open RF
structure WV where
  e : Nat
  ahead : Option (Nat × Nat)
  x : Nat
abbrev WF := List Nat → Option WV
def enter1 (p : P') (u t a : Nat) (ah : Option (Nat × Nat)) (f : WF) (o : Nat) : WF :=
  if u.testBit o = true then f else
  match firstMeet (ins p t a) (th p o) with
  | none => f
  | some e => match f [u ||| 2 ^ o, o] with
    | none => setF f [u ||| 2 ^ o, o] ⟨e, ah, a⟩
    | some v => if e < v.e then setF f [u ||| 2 ^ o, o] ⟨e, ah, a⟩ else f
def enterL (p : P') (u t a : Nat) (ah : Option (Nat × Nat)) (f : WF) (os : List Nat) : WF := os.foldl (enter1 p u t a ah) f
def goL (p : P') (u t : Nat) (f : WF) (ns : List Nat) : WF := ns.foldl (fun f a => enterL p u t a (some (u, t)) f (List.range p.length)) f
def LeW (f g : WF) : Prop := ∀ k v, f k = some v → ∃ v', g k = some v' ∧ v'.e ≤ v.e
theorem LeW.refl (f : WF) : LeW f f := fun k v h => ⟨v, h, Nat.le_refl _⟩
theorem LeW.trans {f g h : WF} (a : LeW f g) (b : LeW g h) : LeW f h := fun k v e => by
  obtain ⟨v1, h1, l1⟩ := a k v e
  obtain ⟨v2, h2, l2⟩ := b k v1 h1
  exact ⟨v2, h2, Nat.le_trans l2 l1⟩
theorem LeW.ne {f g : WF} (a : LeW f g) {k : List Nat} (h : f k ≠ none) : g k ≠ none := by
  cases e : f k with
  | none => exact absurd e h
  | some v =>
    obtain ⟨v1, h1, _⟩ := a k v e
    rw [h1]; exact fun z => (by cases z)
theorem lt_or2 {u o : Nat} (h : u.testBit o = false) : u < u ||| 2 ^ o := by
  have h1 : u ≤ u ||| 2 ^ o := Nat.left_le_or
  rcases Nat.lt_or_eq_of_le h1 with h2 | h2
  · exact h2
  · have : (u ||| 2 ^ o).testBit o = true := by rw [Nat.testBit_or, Nat.testBit_two_pow]; simp
    rw [← h2, h] at this
    cases this
section
variable {p : P'} {u t a : Nat} {ah : Option (Nat × Nat)} {f : WF}
theorem enter1_cases (o : Nat) : (enter1 p u t a ah f o = f ∧ (u.testBit o = true ∨ firstMeet (ins p t a) (th p o) = none ∨ ∃ e v, firstMeet (ins p t a) (th p o) = some e ∧ f [u ||| 2 ^ o, o] = some v ∧ v.e ≤ e)) ∨
    (u.testBit o = false ∧ ∃ e, firstMeet (ins p t a) (th p o) = some e ∧ (∀ v, f [u ||| 2 ^ o, o] = some v → e < v.e) ∧ enter1 p u t a ah f o = setF f [u ||| 2 ^ o, o] ⟨e, ah, a⟩) := by
  by_cases hb : u.testBit o = true
  · left
    refine ⟨?_, .inl hb⟩
    unfold enter1
    rw [if_pos hb]
  · have hb' : u.testBit o = false := by simpa using hb
    cases hf : firstMeet (ins p t a) (th p o) with
    | none =>
      left
      refine ⟨?_, .inr (.inl rfl)⟩
      unfold enter1
      rw [if_neg hb, hf]
    | some e =>
      cases hk : f [u ||| 2 ^ o, o] with
      | none =>
        right
        refine ⟨hb', e, rfl, fun v z => (by cases z), ?_⟩
        unfold enter1
        simp only [hf, hk]
        rw [if_neg hb]
      | some v =>
        by_cases hl : e < v.e
        · right
          refine ⟨hb', e, rfl, fun w z => (by cases z; exact hl), ?_⟩
          unfold enter1
          simp only [hf, hk]
          rw [if_neg hb, if_pos hl]
        · left
          refine ⟨?_, .inr (.inr ⟨e, v, rfl, rfl, by omega⟩)⟩
          unfold enter1
          simp only [hf, hk]
          rw [if_neg hb, if_neg hl]
theorem enter1_le (o : Nat) : LeW f (enter1 p u t a ah f o) := by
  rcases enter1_cases (p := p) (u := u) (t := t) (a := a) (ah := ah) (f := f) o with ⟨h, _⟩ | ⟨hb, e, hf, hl, h⟩
  · rw [h]; exact LeW.refl _
  · rw [h]
    intro k v hk
    unfold setF
    by_cases e : k = [u ||| 2 ^ o, o]
    · subst e
      exact ⟨_, if_pos rfl, Nat.le_of_lt (hl v hk)⟩
    · exact ⟨v, by rw [if_neg e]; exact hk, Nat.le_refl _⟩
theorem enter1_out (o : Nat) {k : List Nat} (h : u.testBit o = true ∨ k ≠ [u ||| 2 ^ o, o]) : enter1 p u t a ah f o k = f k := by
  rcases enter1_cases (p := p) (u := u) (t := t) (a := a) (ah := ah) (f := f) o with ⟨h1, _⟩ | ⟨hb, e, hf, hl, h1⟩
  · rw [h1]
  · rw [h1]
    unfold setF
    rw [if_neg]
    exact h.resolve_left (by rw [hb]; decide)
theorem enter1_in {o e : Nat} (h : u.testBit o = false) (hf : firstMeet (ins p t a) (th p o) = some e) : ∃ v, enter1 p u t a ah f o [u ||| 2 ^ o, o] = some v ∧ v.e ≤ e := by
  rcases enter1_cases (p := p) (u := u) (t := t) (a := a) (ah := ah) (f := f) o with ⟨h1, h2 | h2 | ⟨e', v, h2, h3, h4⟩⟩ | ⟨hb, e', hf', hl, h1⟩
  · rw [h] at h2; cases h2
  · rw [hf] at h2; cases h2
  · rw [hf] at h2; cases h2
    rw [h1]
    exact ⟨v, h3, h4⟩
  · rw [hf] at hf'; cases hf'
    rw [h1]
    exact ⟨_, if_pos rfl, Nat.le_refl _⟩
theorem enter1_new {o : Nat} {k : List Nat} {v : WV} (h : enter1 p u t a ah f o k = some v) : f k = some v ∨ (u.testBit o = false ∧ k = [u ||| 2 ^ o, o] ∧ firstMeet (ins p t a) (th p o) = some v.e ∧ v.ahead = ah ∧ v.x = a) := by
  rcases enter1_cases (p := p) (u := u) (t := t) (a := a) (ah := ah) (f := f) o with ⟨h1, _⟩ | ⟨hb, e', hf', hl, h1⟩
  · rw [h1] at h; exact .inl h
  · rw [h1] at h
    unfold setF at h
    by_cases hk : k = [u ||| 2 ^ o, o]
    · rw [if_pos hk] at h
      cases h
      exact .inr ⟨hb, hk, hf', rfl, rfl⟩
    · rw [if_neg hk] at h
      exact .inl h
theorem enterL_le (os : List Nat) : ∀ f : WF, LeW f (enterL p u t a ah f os) := by
  induction os with
  | nil => exact fun f => LeW.refl f
  | cons o r ih => exact fun f => (enter1_le o).trans (ih _)
theorem enterL_low {u' t' : Nat} (h : u' ≤ u) (os : List Nat) : ∀ f : WF, enterL p u t a ah f os [u', t'] = f [u', t'] := by
  induction os with
  | nil => exact fun f => rfl
  | cons o r ih =>
    intro f
    refine (ih _).trans (enter1_out o ?_)
    by_cases hb : u.testBit o = true
    · exact .inl hb
    · refine .inr fun z => ?_
      have h1 : u' = u ||| 2 ^ o := (List.cons.inj z).1
      have h2 := lt_or2 (u := u) (o := o) (by simpa using hb)
      omega
theorem enterL_in {o e : Nat} {os : List Nat} (ho : o ∈ os) (h : u.testBit o = false) (hf : firstMeet (ins p t a) (th p o) = some e) : ∀ f : WF, ∃ v, enterL p u t a ah f os [u ||| 2 ^ o, o] = some v ∧ v.e ≤ e := by
  induction os with
  | nil => cases ho
  | cons o' r ih =>
    intro f
    by_cases hm : o ∈ r
    · exact ih hm _
    · have : o = o' := (List.mem_cons.mp ho).resolve_right hm
      subst this
      obtain ⟨v, hv, hl⟩ := enter1_in (ah := ah) (f := f) h hf
      obtain ⟨v', hv', hl'⟩ := enterL_le r (enter1 p u t a ah f o) _ v hv
      exact ⟨v', hv', Nat.le_trans hl' hl⟩
theorem enterL_new {os : List Nat} {k : List Nat} {v : WV} : ∀ {f : WF}, enterL p u t a ah f os k = some v → f k = some v ∨ ∃ o, o ∈ os ∧ u.testBit o = false ∧ k = [u ||| 2 ^ o, o] ∧ firstMeet (ins p t a) (th p o) = some v.e ∧ v.ahead = ah ∧ v.x = a := by
  induction os with
  | nil => exact fun h => .inl h
  | cons o r ih =>
    intro f h
    rcases ih (f := enter1 p u t a ah f o) h with h | ⟨o', ho', h⟩
    · rcases enter1_new h with h | h
      · exact .inl h
      · exact .inr ⟨o, List.mem_cons_self, h⟩
    · exact .inr ⟨o', List.mem_cons_of_mem _ ho', h⟩
theorem goL_le (ns : List Nat) : ∀ f : WF, LeW f (goL p u t f ns) := by
  induction ns with
  | nil => exact fun f => LeW.refl f
  | cons o r ih => exact fun f => (enterL_le _ f).trans (ih _)
theorem goL_low {u' t' : Nat} (h : u' ≤ u) (ns : List Nat) : ∀ f : WF, goL p u t f ns [u', t'] = f [u', t'] := by
  induction ns with
  | nil => exact fun f => rfl
  | cons o r ih => exact fun f => (ih _).trans (enterL_low h _ f)
theorem goL_in {o e a : Nat} {ns : List Nat} (ha : a ∈ ns) (ho : o < p.length) (h : u.testBit o = false) (hf : firstMeet (ins p t a) (th p o) = some e) : ∀ f : WF, ∃ v, goL p u t f ns [u ||| 2 ^ o, o] = some v ∧ v.e ≤ e := by
  induction ns with
  | nil => cases ha
  | cons a' r ih =>
    intro f
    by_cases hm : a ∈ r
    · exact ih hm _
    · have : a = a' := (List.mem_cons.mp ha).resolve_right hm
      subst this
      obtain ⟨v, hv, hl⟩ := enterL_in (ah := some (u, t)) (List.mem_range.mpr ho) h hf f
      obtain ⟨v', hv', hl'⟩ := goL_le r (enterL p u t a (some (u, t)) f (List.range p.length)) _ v hv
      exact ⟨v', hv', Nat.le_trans hl' hl⟩
theorem goL_new {ns : List Nat} {k : List Nat} {v : WV} : ∀ {f : WF}, goL p u t f ns k = some v → f k = some v ∨ ∃ a o, a ∈ ns ∧ o < p.length ∧ u.testBit o = false ∧ k = [u ||| 2 ^ o, o] ∧ firstMeet (ins p t a) (th p o) = some v.e ∧ v.ahead = some (u, t) ∧ v.x = a := by
  induction ns with
  | nil => exact fun h => .inl h
  | cons a r ih =>
    intro f h
    rcases ih (f := enterL p u t a (some (u, t)) f (List.range p.length)) h with h | ⟨a', o', ha', h⟩
    · rcases enterL_new h with h | ⟨o, ho, h⟩
      · exact .inl h
      · exact .inr ⟨a, o, List.mem_cons_self, List.mem_range.mp ho, h⟩
    · exact .inr ⟨a', o', List.mem_cons_of_mem _ ha', h⟩
end
/-! ### masks -/
def maskOf (vis : List Nat) : Nat := vis.foldr (fun o m => m ||| 2 ^ o) 0
theorem maskOf_cons (o : Nat) (vis : List Nat) : maskOf (o :: vis) = maskOf vis ||| 2 ^ o := rfl
theorem testBit_mask (i : Nat) : ∀ vis : List Nat, (maskOf vis).testBit i = decide (i ∈ vis)
  | [] => by simp [maskOf]
  | o :: r => by
    rw [maskOf_cons, Nat.testBit_or, testBit_mask i r, Nat.testBit_two_pow]
    by_cases h : i = o
    · subst h; simp
    · have : ¬ o = i := fun z => h z.symm
      simp [h, this]
theorem mask_lt {n : Nat} : ∀ {vis : List Nat}, (∀ o ∈ vis, o < n) → maskOf vis < 2 ^ n
  | [], _ => Nat.two_pow_pos n
  | o :: r, h => Nat.or_lt_two_pow (mask_lt fun x hx => h x (List.mem_cons_of_mem _ hx)) (Nat.pow_lt_pow_right (by decide) (h o List.mem_cons_self))
theorem reach_vis {p : P'} {line : Bool} {room home late : Nat} (hh : home < p.length) {vis : List Nat} {t e c : Nat} (r : Reach p line room home late vis t e c) : ∀ o ∈ vis, o < p.length := by
  induction r with
  | base h1 h2 h3 =>
    intro o ho
    rcases List.mem_cons.mp ho with rfl | ho
    · exact h1
    · cases List.mem_singleton.mp ho; exact hh
  | step r h1 h2 h3 h4 ih =>
    intro o ho
    rcases List.mem_cons.mp ho with rfl | ho
    · exact h2
    · exact ih o ho
theorem reach_box {p : P'} {line : Bool} {room home late : Nat} {vis : List Nat} {t e c : Nat} (r : Reach p line room home late vis t e c) (line' : Bool) (room' : Nat) : ∃ c', Reach p line' room' home late vis t e c' := by
  induction r with
  | base h1 h2 h3 => exact ⟨_, .base h1 h2 h3⟩
  | step r h1 h2 h3 h4 ih =>
    obtain ⟨c', r'⟩ := ih
    exact ⟨_, .step r' h1 h2 h3 h4⟩
theorem meets_sort {a a' b : I'} (h1 : a.isAcc = true) (h2 : a'.isAcc = true) (h : a.sort = a'.sort) : a.meets b = a'.meets b := by
  cases a with
  | fence => cases h1
  | acc k x =>
    cases a' with
    | fence => cases h2
    | acc k' x' =>
      have e1 : some x = some x' := congrArg Prod.fst h
      have e2 : (Ins.acc k x : I').isLoad = (Ins.acc k' x' : I').isLoad := congrArg Prod.snd h
      cases e1
      unfold Ins.meets
      have : (Ins.acc k x : I').doesStore = (Ins.acc k' x : I').doesStore := by
        cases k <;> cases k' <;> first | rfl | (cases e2)
      rw [this]
      rfl
theorem firstMeet_sort {a a' : I'} (h1 : a.isAcc = true) (h2 : a'.isAcc = true) (h : a.sort = a'.sort) (t : T') : firstMeet a t = firstMeet a' t := by
  unfold firstMeet
  congr 1
  funext b
  exact meets_sort h1 h2 h
/-- an earlier entry has an exit of the same sort -/
theorem exit_mono {t : T'} {e e' a : Nat} (h : IsExit t e a) (he : e' ≤ e) : ∃ a', IsExit t e' a' ∧ (t.getD a' .fence).sort = (t.getD a .fence).sort := by
  obtain ⟨j0, _, h2, h3⟩ := exit_first (t := t) (e := e') (Nat.le_trans he h.1) h.2.1 h.2.2.1
  exact ⟨j0, h2, h3⟩
structure WInv (p : P') (home late U T : Nat) (f : WF) : Prop where
  sound : ∀ k v, f k = some v → ∃ vis t c, k = [maskOf vis, t] ∧ Reach p true 0 home late vis t v.e c ∧ (v.ahead = none ∨ ∃ u' t', v.ahead = some (u', t') ∧ u' < maskOf vis ∧ f [u', t'] ≠ none)
  base : ∀ o e, o < p.length → o ≠ home → firstMeet (ins p home late) (th p o) = some e → ∃ v, f [2 ^ home ||| 2 ^ o, o] = some v ∧ v.e ≤ e
  closed : ∀ u t v, f [u, t] = some v → (u < U ∨ u = U ∧ t < T) → ∀ a o e', IsExit (th p t) v.e a → o < p.length → u.testBit o = false → firstMeet (ins p t a) (th p o) = some e' → ∃ v', f [u ||| 2 ^ o, o] = some v' ∧ v'.e ≤ e'
section
variable {p : P'} {home late U T : Nat} {f : WF}
theorem WInv.start : WInv p home late 0 0 (enterL p (2 ^ home) home late none (fun _ => none) (List.range p.length)) := by
  refine ⟨fun k v h => ?_, fun o e h1 h2 h3 => ?_, fun u t v _ h => ?_⟩
  · rcases enterL_new h with h | ⟨o, h1, h2, h3, h4, h5, h6⟩
    · cases h
    · refine ⟨[o, home], o, _, ?_, .base (List.mem_range.mp h1) (fun z => ?_) h4, .inl h5⟩
      · rw [h3]
        show [2 ^ home ||| 2 ^ o, o] = [(0 ||| 2 ^ home) ||| 2 ^ o, o]
        rw [Nat.zero_or]
      · subst z
        rw [Nat.testBit_two_pow] at h2
        simp at h2
  · refine enterL_in (List.mem_range.mpr h1) ?_ h3 _
    rw [Nat.testBit_two_pow]
    exact decide_eq_false fun z => h2 z.symm
  · rcases h with h | h
    · exact absurd h (Nat.not_lt_zero _)
    · exact absurd h.2 (Nat.not_lt_zero _)
theorem WInv.skip (h : WInv p home late U T f) (hn : f [U, T] = none) : WInv p home late U (T + 1) f := ⟨h.sound, h.base, fun u t v hv hu => by
  refine h.closed u t v hv ?_
  rcases hu with hu | ⟨rfl, hu⟩
  · exact .inl hu
  · rcases Nat.lt_succ_iff_lt_or_eq.mp hu with h1 | rfl
    · exact .inr ⟨rfl, h1⟩
    · rw [hn] at hv; cases hv⟩
theorem WInv.go (h : WInv p home late U T f) {v : WV} (hv : f [U, T] = some v) {ns : List Nat} (hns : ∀ a, a ∈ ns ↔ IsExit (th p T) v.e a) : WInv p home late U (T + 1) (goL p U T f ns) := by
  have le := goL_le (p := p) (u := U) (t := T) ns f
  refine ⟨fun k w hk => ?_, fun o e h1 h2 h3 => ?_, fun u t w hw hu a o e' h1 h2 h3 h4 => ?_⟩
  · rcases goL_new hk with hk | ⟨a, o, h1, h2, h3, h4, h5, h6, h7⟩
    · obtain ⟨vis, t, c, e1, e2, e3⟩ := h.sound k w hk
      refine ⟨vis, t, c, e1, e2, ?_⟩
      rcases e3 with e3 | ⟨u', t', e4, e5, e6⟩
      · exact .inl e3
      · exact .inr ⟨u', t', e4, e5, le.ne e6⟩
    · obtain ⟨vis, t, c, e1, e2, e3⟩ := h.sound _ v hv
      obtain ⟨e4, e5⟩ : U = maskOf vis ∧ T = t := ⟨(List.cons.inj e1).1, (List.cons.inj (List.cons.inj e1).2).1⟩
      subst e5
      refine ⟨o :: vis, o, _, ?_, .step e2 ((hns a).mp h1) h2 (fun z => ?_) h5, .inr ⟨U, T, h6, ?_, le.ne (by rw [hv]; exact fun z => (by cases z))⟩⟩
      · rw [h4, maskOf_cons, ← e4]
      · rw [e4, testBit_mask] at h3
        exact (of_decide_eq_false h3) z
      · rw [maskOf_cons, ← e4]
        exact lt_or2 h3
  · obtain ⟨w, hw, hl⟩ := h.base o e h1 h2 h3
    obtain ⟨w', hw', hl'⟩ := le _ w hw
    exact ⟨w', hw', Nat.le_trans hl' hl⟩
  · have hle : u ≤ U := by rcases hu with hu | hu; · exact Nat.le_of_lt hu
                           · exact Nat.le_of_eq hu.1
    rw [goL_low hle] at hw
    by_cases hx : u = U ∧ t = T
    · obtain ⟨rfl, rfl⟩ := hx
      rw [hv] at hw; cases hw
      exact goL_in ((hns a).mpr h1) h2 h3 h4 f
    · obtain ⟨w', hw', hl⟩ := h.closed u t w hw (by
        rcases hu with hu | ⟨rfl, hu⟩
        · exact .inl hu
        · refine .inr ⟨rfl, ?_⟩
          have : t ≠ T := fun z => hx ⟨rfl, z⟩
          omega) a o e' h1 h2 h3 h4
      obtain ⟨w2, hw2, hl2⟩ := le _ w' hw'
      exact ⟨w2, hw2, Nat.le_trans hl2 hl⟩
theorem WInv.key (h : WInv p home late U T f) {k : List Nat} {v : WV} (hk : f k = some v) (hh : home < p.length) : ∃ u t, k = [u, t] ∧ u < 2 ^ p.length ∧ t < p.length ∧ v.e < (th p t).length := by
  obtain ⟨vis, t, c, e1, e2, _⟩ := h.sound k v hk
  exact ⟨_, t, e1, mask_lt (reach_vis hh e2), e2.lt.1, e2.lt.2⟩
theorem WInv.next (h : WInv p home late U p.length f) (hh : home < p.length) : WInv p home late (U + 1) 0 f := ⟨h.sound, h.base, fun u t v hv hu => by
  refine h.closed u t v hv ?_
  rcases hu with hu | ⟨_, hu⟩
  · rcases Nat.lt_succ_iff_lt_or_eq.mp hu with h1 | rfl
    · exact .inl h1
    · obtain ⟨u', t', e, _, ht, _⟩ := h.key hv hh
      have : t = t' := (List.cons.inj (List.cons.inj e).2).1
      exact .inr ⟨rfl, by omega⟩
  · exact absurd hu (Nat.not_lt_zero _)⟩
theorem WInv.complete (h : WInv p home late (2 ^ p.length) 0 f) (hh : home < p.length) {vis : List Nat} {t e c : Nat} (r : Reach p true 0 home late vis t e c) : ∃ v, f [maskOf vis, t] = some v ∧ v.e ≤ e := by
  induction r with
  | base h1 h2 h3 =>
    obtain ⟨v, hv, hl⟩ := h.base _ _ h1 h2 h3
    refine ⟨v, ?_, hl⟩
    rw [← hv]
    show f [(0 ||| 2 ^ home) ||| 2 ^ _, _] = _
    rw [Nat.zero_or]
  | step r h1 h2 h3 h4 ih =>
    obtain ⟨v, hv, hl⟩ := ih
    obtain ⟨a', ha', hs⟩ := exit_mono h1 hl
    refine h.closed _ _ v hv (.inl (mask_lt (reach_vis hh r))) a' _ _ ha' h2 ?_ ?_
    · rw [testBit_mask]; exact decide_eq_false h3
    · rw [← h4]
      exact firstMeet_sort ha'.2.2.1 h1.2.2.1 hs _
theorem WInv.live (h : WInv p home late (2 ^ p.length) 0 f) (hh : home < p.length) {early : Nat} (line : Bool) (room : Nat) : Live p line room (home, early, late) ↔ ∃ u t v a, f [u, t] = some v ∧ IsExit (th p t) v.e a ∧ (ins p t a).meets (ins p home early) = true := by
  constructor
  · rintro ⟨_, vis, t, e, c', a, r, h1, h2, _⟩
    obtain ⟨c2, r2⟩ := reach_box r true 0
    obtain ⟨v, hv, hl⟩ := h.complete hh r2
    obtain ⟨a', ha', hs⟩ := exit_mono h1 hl
    refine ⟨_, t, v, a', hv, ha', ?_⟩
    rw [← h2]
    exact meets_sort ha'.2.2.1 h1.2.2.1 hs
  · rintro ⟨u, t, v, a, h1, h2, h3⟩
    obtain ⟨vis, t', c, e1, e2, _⟩ := h.sound _ v h1
    have : t = t' := (List.cons.inj (List.cons.inj e1).2).1
    subst this
    obtain ⟨c', r⟩ := reach_box e2 line room
    exact ⟨_, vis, t, v.e, c', a, r, h2, h3, rfl⟩
end
end RFW
end

section
set_option Elab.async false
set_option linter.all false
set_option maxRecDepth 100000
set_option maxHeartbeats 4000000
/-! Methods and classes of the module that keep their promises; more readings. -/
namespace RFW
open PySem L2 Evl RF
structure MethOk (P : Program) (w : World) (K : PySem.W.Frag) (mg : Str → Option Value) (base : Heap) (C : Addr) (m : Str) (ps : List Str) (k : Nat) (sp : Sp) : Prop where
  ex : ∃ (f : Addr) (fd : FuncData), Meth K C m f ∧ Binds K fd ps [] ∧ FnOk P w K mg base CX0 k f fd ps sp
structure MakeOk (P : Program) (w : World) (K : PySem.W.Frag) (mg : Str → Option Value) (base : Heap) (C : Addr) (c : Str) (ps : List Str) (k : Nat) (sp : Sp) : Prop where
  ex : ∃ (f : Addr) (fd : FuncData), mg c = some (.ref C) ∧ Mk K C f ∧ Binds K fd ps [] ∧ FnOk P w K mg base CX0 k f fd ps sp
structure HereM (K : PySem.W.Frag) (C : Addr) (x qual : Str) (st : Stmt) (ps : List Str) : Prop where
  ex : ∃ (f : Addr) (fd : FuncData), Meth K C x f ∧ Fun K x qual st f fd ∧ Binds K fd ps []
structure HereI (K : PySem.W.Frag) (mg : Str → Option Value) (C : Addr) (c qual : Str) (st : Stmt) (ps : List Str) : Prop where
  ex : ∃ (f : Addr) (fd : FuncData), mg c = some (.ref C) ∧ Mk K C f ∧ Fun K "__init__" qual st f fd ∧ Binds K fd ps []
section
variable {P : Program} {w : World} {K : PySem.W.Frag} {mg : Str → Option Value} {base : Heap} {C : Addr} {x qual c : Str} {st : Stmt} {ps : List Str} {k : Nat} {sp : Sp}
theorem HereM.ok (h : HereM K C x qual st ps) (go : ∀ {f : Addr} {fd : FuncData}, Fun K x qual st f fd → FnOk P w K mg base CX0 k f fd ps sp) : MethOk P w K mg base C x ps k sp := by
  obtain ⟨f, fd, h1, h2, h3⟩ := h.ex
  exact ⟨f, fd, h1, h3, go h2⟩
theorem HereI.ok (h : HereI K mg C c qual st ps) (go : ∀ {f : Addr} {fd : FuncData}, Fun K "__init__" qual st f fd → FnOk P w K mg base CX0 k f fd ps sp) : MakeOk P w K mg base C c ps k sp := by
  obtain ⟨f, fd, h0, h1, h2, h3⟩ := h.ex
  exact ⟨f, fd, h0, h1, h3, go h2⟩
end
theorem pe_m {X : Cx} {C : Addr} {m : Str} {ps : List Str} {k : Nat} {sp : Sp} {o e : Expr} {es : List Expr} {ta : TE} {t : TA} {apos pos : Pos} {pl : Sem Bool} (D : MethOk X.prog X.w X.K X.mg X.base C m ps k sp) (c : Cls X.K C) (hr : Room k X.A) (he : PE X o ta) (ha : PA X (e :: es) t) (hx : Passes CX0 X E0)
    (hst : starEach (e :: es) X.env = (false, eval e X.env) :: starEach es X.env := by rfl) (hpl : (backTo pos (starEach es X.env)).any (·.1) = false := by rfl)
    (ht : eval (.Call (.Attribute o m apos) (e :: es) [] pos) X.env = (do
      let ov ← eval o X.env
      standAt apos.atName
      let (f, first) ← holding [ov] (getMethod ov m pl)
      callWith pos f first (backTo pos (starEach (e :: es) X.env)) (backToKw pos (keywordEach [] X.env))) := by rfl) :
    PE X (.Call (.Attribute o m apos) (e :: es) [] pos) (tMeth C m sp [] E0 ta t) := by
  obtain ⟨f, fd, h1, h2, h3⟩ := D.ex
  exact pe_meth he c h1 h3 hr h2 .nil hx ha hst hpl ht
theorem pe_mk {X : Cx} {C : Addr} {c : Str} {ps : List Str} {k : Nat} {sp : Sp} {e : Expr} {es : List Expr} {t : TA} {p pos : Pos} (D : MakeOk X.prog X.w X.K X.mg X.base C c ps k sp) (hr : Room (k + 1) X.A) (hg : Gl X c) (ha : PA X (e :: es) t) (hx : Passes CX0 X E0)
    (hdb : (c == ("__debug__" : Str)) = false := by decide) (he : starEach (e :: es) X.env = (false, eval e X.env) :: starEach es X.env := by rfl) (hpl : (backTo pos (starEach es X.env)).any (·.1) = false := by rfl) :
    PE X (.Call (.Name c p) (e :: es) [] pos) (tMake C sp [] E0 t) := by
  obtain ⟨f, fd, h0, h1, h2, h3⟩ := D.ex
  exact pe_make h1 h3 hr hg h0 h2 .nil hx ha hdb he hpl
section
variable {K : PySem.W.Frag} {σ : L2.St} {H H' : Hp} {ta tb te tl : TE} {tu tz : TS} {g : TG} {D : Ends} {ds : List PyData} {R : Rel}
/-- for x in l, when l's value is here -/
theorem for_ld {v : V} (r : Ld ds v H) (Pv : Addr → List V → Nat → L2.St → Hp → Prop) (h0 : ∀ p vs, v = .ref p → H p = some (.lst vs) → TdAll H vs ds → Pv p vs 0 σ H) (hk : ∀ p vs i σ' H', Pv p vs i σ' H' → H' p = some (.lst vs) ∧ TdAll H' vs ds)
    (hs : ∀ p vs (i : Nat) x d σ' H', ds[i]? = some d → Td H' x d → Pv p vs i σ' H' → g x σ' H' fun σ2 H2 => tu { D with nx := Pv p vs (i + 1), ct := Pv p vs (i + 1), bk := D.nx } σ2 H2)
    (hd : ∀ p vs σ' H', Pv p vs ds.length σ' H' → D.nx σ' H') : tFor (iList K fun _ H1 Q => Q v H1) g tu D σ H := by
  obtain ⟨p, xs, ev, hx, hz, r⟩ := r
  subst ev
  have hl := r.length
  refine ⟨p, rfl, ⟨xs, SqL.of hx⟩, for_list (xs := xs) (Pv p xs) (h0 p xs rfl hx r) (fun i σ' H' _ q => SqL.of (hk _ _ _ _ _ q).1) (fun i x σ' H' hi q => ?_) (fun σ' H' q => hd p xs σ' H' (by rw [hl] at q; exact q))⟩
  obtain ⟨d, hd', td⟩ := (hk _ _ _ _ _ q).2.get' hi
  exact hs p xs i x d σ' H' hd' td q
/-- for x in e, e giving something of which R holds -/
theorem s_forV (h : EvR tl σ H R) (k : ∀ v H1, Ex H H1 → R v H1 → tFor (iList K fun _ H2 Q => Q v H2) g tu D σ H1) : tFor (iList K tl) g tu D σ H := h H (Ex.refl H) _ k
theorem q_forV (h : EvR tl σ H R) (k : ∀ v H1, Ex H H1 → R v H1 → tFor (iList K fun _ H2 Q => Q v H2) g tu { D with nx := tz D } σ H1) : tSeq (tFor (iList K tl) g tu) tz D σ H := s_forV (D := { D with nx := tz D }) h k
/-- xs[::-1] -/
theorem tdAll_rev : ∀ {ds : List PyData} {vs : List V}, TdAll H vs ds → TdAll H vs.reverse ds.reverse
  | [], _, h => by cases h; exact .nil
  | d :: ds, _, h => by
    cases h with
    | cons h1 h2 =>
      rw [List.reverse_cons, List.reverse_cons]
      exact (tdAll_rev h2).append (.one h1)
theorem evld_rev (h : EvR te σ H (Ld ds)) (hz : ds.length ≤ 100000) : EvLd (tRevL K te) σ H ds.reverse := fun H1 e Q q => h H1 e _ fun v H2 e2 ⟨p, vs, ev, hp, _, r⟩ => by
  subst ev
  refine ⟨p, vs, rfl, SqL.of hp, fun l hl => q l vs.reverse _ (fresh_back e2 hl) (e2.trans (Ex.new hl)) upd_same (by rw [List.length_reverse, r.length]; exact hz) ((tdAll_rev r).ex (Ex.new hl))⟩
/-- sorted(d), d a dict with keys of numbers -/
def rSortD (K : PySem.W.Frag) : List V → Hp → VK → Prop := fun xs H Q => ∃ d kvs, xs = [V.ref d] ∧ Rd H d (.dT kvs) ∧ (∀ a ∈ kvs, ∀ b ∈ kvs, PySem.W.alike (keysD a.1) (keysD b.1) = true) ∧ (∀ a ∈ kvs, a.1 ≠ [] ∧ a.1.length ≤ 100000) ∧
    ∀ p (ys : List (List Key × Addr)), H p = none → (ys.map (·.1)).Perm (kvs.map (·.1)) → (∀ y ∈ ys, H y.2 = some (.tup (y.1.map kV))) → Q (.ref p) (upd H p (.lst (ys.map fun y => V.ref y.2)))
theorem alike_kI : ∀ a b : List Nat, PySem.W.alikeAll ((kI a).map keyD) ((kI b).map keyD) = true
  | [], _ => rfl
  | _ :: _, [] => rfl
  | x :: a, y :: b => by
    show (PySem.W.alike (.int x) (.int y) && PySem.W.alikeAll ((kI a).map keyD) ((kI b).map keyD)) = true
    rw [alike_kI a b]
    rfl
theorem keysD_kI (k : List Nat) : keysD (kI k) = intsT k := by
  unfold keysD kI intsT
  rw [List.map_map]
  rfl
theorem kI_length (k : List Nat) : (kI k).length = k.length := List.length_map _
theorem keys_td {β : Type} {Rv : V → β → Prop} {f : List Nat → Option β} {kvs : List (List Key × V)} {ys : List (List Key × Addr)} (F : DF Rv kvs f) (hk : ∀ k, f k ≠ none → k.length ≤ 100) (hm : (ys.map (·.1)).Perm (kvs.map (·.1)))
    (hy : ∀ y ∈ ys, H y.2 = some (.tup (y.1.map kV))) : ∃ ks : List (List Nat), TdAll H (ys.map fun y => V.ref y.2) (ks.map intsT) ∧ ∀ k, k ∈ ks ↔ f k ≠ none := by
  have dec : ∀ y ∈ ys, ∃ k : List Nat, y.1 = kI k ∧ f k ≠ none := fun y hy => by
    obtain ⟨kv, h1, h2⟩ := List.mem_map.mp (hm.mem_iff.mp (List.mem_map.mpr ⟨y, hy, rfl⟩))
    obtain ⟨k, h3, h4⟩ := F.ks kv h1
    exact ⟨k, h2.symm.trans h3, h4⟩
  have go : ∀ l : List (List Key × Addr), (∀ y ∈ l, (∃ k : List Nat, y.1 = kI k ∧ f k ≠ none) ∧ H y.2 = some (.tup (y.1.map kV))) → ∃ ks : List (List Nat), TdAll H (l.map fun y => V.ref y.2) (ks.map intsT) ∧ ∀ k, k ∈ ks ↔ ∃ y ∈ l, y.1 = kI k := fun l => by
    induction l with
    | nil => intro _; exact ⟨[], .nil, fun k => ⟨fun h => (by cases h), fun ⟨_, h, _⟩ => (by cases h)⟩⟩
    | cons y r ih =>
      intro h
      obtain ⟨ks, h1, h2⟩ := ih fun z hz => h z (List.mem_cons_of_mem _ hz)
      obtain ⟨⟨k, hk1, hk2⟩, hy⟩ := h y List.mem_cons_self
      refine ⟨k :: ks, .cons ?_ h1, fun j => ?_⟩
      · rw [hk1] at hy
        have := td_key hy (by rw [kI_length]; exact Nat.le_trans (hk k hk2) (by decide))
        rw [keysD_kI] at this
        exact this
      · rw [List.mem_cons, h2]
        constructor
        · rintro (rfl | ⟨z, hz, e⟩)
          · exact ⟨y, List.mem_cons_self, hk1⟩
          · exact ⟨z, List.mem_cons_of_mem _ hz, e⟩
        · rintro ⟨z, hz, e⟩
          rcases List.mem_cons.mp hz with rfl | hz
          · exact .inl (kI_inj (e.symm.trans hk1))
          · exact .inr ⟨z, hz, e⟩
  obtain ⟨ks, h1, h2⟩ := go ys fun y h => ⟨dec y h, hy y h⟩
  refine ⟨ks, h1, fun k => ?_⟩
  rw [h2]
  constructor
  · rintro ⟨y, hy', e⟩
    obtain ⟨j, e1, e2⟩ := dec y hy'
    rw [kI_inj (e.symm.trans e1)]
    exact e2
  · intro hf
    cases e : f k with
    | none => exact absurd e hf
    | some x =>
      obtain ⟨v, hv, _⟩ := F.val e
      obtain ⟨y, h3, h4⟩ := List.mem_map.mp (hm.mem_iff.mpr (valV_in hv))
      exact ⟨y, h3, h4⟩
theorem evr_sortD {β : Type} {DD : β → PyData} {f : List Nat → Option β} {d : Addr} (h : Ev te σ H (.ref d)) (hd : DA DD H d f) (hk : ∀ k, f k ≠ none → k ≠ [] ∧ k.length ≤ 100) (hz : ∀ kvs H1, Ex H H1 → H1 d = some (.dT kvs) → DF (fun v x => Td H1 v (DD x)) kvs f → kvs.length ≤ 100000) :
    EvR (tCB (rSortD K) (tCons te tNil)) σ H (fun v H1 => ∃ ks : List (List Nat), Ld (ks.map intsT) v H1 ∧ ∀ k, k ∈ ks ↔ f k ≠ none) := fun H1 e1 Q q => h H1 e1 _ fun H2 e2 => by
  obtain ⟨kvs, h1, F⟩ := hd.ex (e1.trans e2)
  refine ⟨d, kvs, rfl, .inl h1, fun a ha b hb => ?_, fun a ha => ?_, fun p ys hp pm hy => ?_⟩
  · obtain ⟨j, e3, _⟩ := F.ks a ha
    obtain ⟨k, e4, _⟩ := F.ks b hb
    rw [e3, e4]
    exact alike_kI j k
  · obtain ⟨j, e3, e4⟩ := F.ks a ha
    obtain ⟨k1, k2⟩ := hk j e4
    rw [e3, kI_length]
    refine ⟨fun z => k1 (kI_inj (b := []) z), by omega⟩
  · obtain ⟨ks, t1, t2⟩ := keys_td F (fun k hf => (hk k hf).2) pm hy
    refine q _ _ (e2.trans (Ex.new hp)) ⟨ks, ⟨p, _, rfl, upd_same, ?_, t1.ex (Ex.new hp)⟩, t2⟩
    have l1 := pm.length_eq
    rw [List.length_map, List.length_map] at l1
    rw [List.length_map, l1]
    exact hz kvs H2 (e1.trans e2) h1 F
end
end RFW
end

section
set_option Elab.async false
set_option linter.all false
set_option maxRecDepth 100000
set_option maxHeartbeats 4000000
/-! Ways: enter, go_on, __init__. -/
namespace RFW
open PySem L2 Evl RF
abbrev sWays : Stmt := top 19
abbrev sWI : Stmt := inClass sWays 0
abbrev sWE : Stmt := inClass sWays 1
abbrev sWG : Stmt := inClass sWays 2
abbrev sWR : Stmt := inClass sWays 3
abbrev sWO : Stmt := inClass sWays 4
def ahD : Option (Nat × Nat) → PyData
  | none => .none
  | some (u, t) => intsT [u, t]
def wvD (v : WV) : PyData := .tuple [.int (v.e : Int), ahD v.ahead, .int (v.x : Int)]
structure TWays (K : PySem.W.Frag) (C : Addr) : Prop where
  cl : Cls K C
  nT : NoAttr K C "threads"
  nH : NoAttr K C "home"
  nE : NoAttr K C "entries"
def wFs (vP : V) (home : Nat) (d : Addr) : List (Str × V) := [("threads", vP), ("home", .int (home : Int)), ("entries", .ref d)]
structure WO (C : Addr) (H : Hp) (x d : Addr) (p : P') (home : Nat) : Prop where
  ex : ∃ dx vP, H x = some (.ins C dx (wFs vP home d)) ∧ Td H vP (progD p)
theorem WO.ext {C : Addr} {H H' : Hp} {x d : Addr} {p : P'} {home : Nat} (h : WO C H x d p home) (e : Ex H H') : WO C H' x d p home := by
  obtain ⟨dx, vP, h1, h2⟩ := h.ex
  exact ⟨dx, vP, e _ _ h1, h2.ex e⟩
theorem WO.exb {β : Type} {DD : β → PyData} {f : List Nat → Option β} {C : Addr} {H H' : Hp} {x d : Addr} {p : P'} {home : Nat} (h : WO C H x d p home) (a : DA DD H d f) (e : ExB d H H') : WO C H' x d p home := by
  obtain ⟨dx, vP, h1, h2⟩ := h.ex
  obtain ⟨kvs, h3, _⟩ := id a
  exact ⟨dx, vP, e _ _ h1 (ne_of h1 h3 (by intro z; cases z)), h2.keep (a.tk e)⟩
/-- the keys are pairs of small numbers -/
def Dom (f : WF) : Prop := ∀ k, f k ≠ none → ∃ u t, k = [u, t] ∧ u < 64 ∧ t < 6
theorem pow_few {n : Nat} (h : n ≤ 6) : 2 ^ n ≤ 64 := Nat.pow_le_pow_right (by decide) h
theorem or_few {n u o : Nat} (h : n ≤ 6) (hu : u < 2 ^ n) (ho : o < n) : u ||| 2 ^ o < 64 := Nat.lt_of_lt_of_le (Nat.or_lt_two_pow hu (Nat.pow_lt_pow_right (by decide) ho)) (pow_few h)
theorem Dom.enterL {p : P'} {u t a : Nat} {ah : Option (Nat × Nat)} {f : WF} (h : Dom f) (hp : p.length ≤ 6) (hu : u < 2 ^ p.length) {os : List Nat} (ho : ∀ o ∈ os, o < p.length) : Dom (RFW.enterL p u t a ah f os) := fun k hk => by
  cases e : RFW.enterL p u t a ah f os k with
  | none => exact absurd e hk
  | some v =>
    rcases enterL_new e with e | ⟨o, h1, h2, h3, _⟩
    · exact h k (by rw [e]; exact fun z => (by cases z))
    · exact ⟨_, o, h3, or_few hp hu (ho o h1), Nat.lt_of_lt_of_le (ho o h1) hp⟩
theorem Dom.len {R : V → WV → Prop} {f : WF} {kvs : List (List Key × V)} (h : Dom f) (F : DF R kvs f) : kvs.length ≤ 384 := by
  refine F.few (fun k => match k with | [u, t] => u * 6 + t | _ => 0) 384 (fun k hk => ?_) (fun j k hj hk e => ?_)
  · obtain ⟨u, t, rfl, h1, h2⟩ := h k hk
    show u * 6 + t < 384
    omega
  · obtain ⟨u, t, rfl, h1, h2⟩ := h k hk
    obtain ⟨u', t', rfl, h3, h4⟩ := h j hj
    have e : u' * 6 + t' = u * 6 + t := e
    have e1 : u' = u := by omega
    have e2 : t' = t := by omega
    rw [e1, e2]
theorem range_enter {p : P'} {u t a : Nat} {ah : Option (Nat × Nat)} {f : WF} (i : Nat) : enterL p u t a ah f (List.range (i + 1)) = enter1 p u t a ah (enterL p u t a ah f (List.range i)) i := by
  unfold enterL
  rw [List.range_succ, List.foldl_append]
  rfl
/-! ### bits -/
theorem bit_test (u o : Nat) : decide (Builtin.bitAnd ((u : Int) / 2 ^ ((o : Int).toNat)) 1 = 0) = !u.testBit o := by
  rw [Int.toNat_natCast]
  have h := Bits.bitAnd_mask (x := (u : Int) / 2 ^ o) 1 (Int.ediv_nonneg (Int.natCast_nonneg _) (Int.le_of_lt (Int.pow_pos (by decide))))
  rw [show ((2 : Int) ^ 1 - 1) = 1 from rfl] at h
  rw [h, Nat.testBit_eq_decide_div_mod_eq]
  have e : (u : Int) / 2 ^ o % 2 ^ 1 = ((u / 2 ^ o % 2 : Nat) : Int) := by
    have : ((2 : Int) ^ o) = ((2 ^ o : Nat) : Int) := by rw [Int.natCast_pow]; rfl
    rw [this]
    rfl
  rw [e]
  have h2 : u / 2 ^ o % 2 < 2 := Nat.mod_lt _ (by decide)
  by_cases h1 : u / 2 ^ o % 2 = 1
  · rw [h1]; decide
  · have : u / 2 ^ o % 2 = 0 := by omega
    rw [this]; decide
theorem or_key (u o : Nat) : Builtin.bitOr (u : Int) (1 * 2 ^ ((o : Int).toNat)) = ((u ||| 2 ^ o : Nat) : Int) := by
  rw [Int.toNat_natCast, Int.one_mul]
  have : ((2 : Int) ^ o) = ((2 ^ o : Nat) : Int) := by rw [Int.natCast_pow]; rfl
  rw [this, Bits.bitOr_pp (Int.natCast_nonneg _) (Int.natCast_nonneg _), Int.toNat_natCast, Int.toNat_natCast]
theorem shl_key (o : Nat) : (1 : Int) * 2 ^ ((o : Int).toNat) = ((2 ^ o : Nat) : Int) := by
  rw [Int.toNat_natCast, Int.one_mul, Int.natCast_pow]; rfl
theorem shl_ok {o : Nat} (h : o ≤ 6) : CPow 1 (o : Int) := ⟨Int.natCast_nonneg _, by omega, by decide⟩
theorem isNone_opt (o : Option Nat) : isNone (optD o) = o.isNone := by cases o <;> rfl
section
variable {P : Program} {w : World} {K : PySem.W.Frag} {mg : Str → Option Value} {base : Heap}
/-- self, state, place, ahead -/
def spWE (C : Addr) : Sp := fun vs H Q _ => ∃ (x d : Addr) (p : P') (home u t0 t a : Nat) (ah : Option (Nat × Nat)) (f : WF) (v1 v2 v3 : V), vs = [.ref x, v1, v2, v3] ∧ Td H v1 (intsT [u, t0]) ∧ Td H v2 (plD t a) ∧ Td H v3 (ahD ah) ∧ WO C H x d p home ∧ DA wvD H d f ∧ Dom f ∧
  ProgOk p ∧ u < 2 ^ p.length ∧ t < p.length ∧ a < (th p t).length ∧ (ins p t a).isAcc = true ∧ ∀ H', ExB d H H' → DA wvD H' d (enterL p u t a ah f (List.range p.length)) → Q .non H'
theorem scWE : FnScope ["self", "state", "place", "ahead", "used", "other", "entry", "later"] ["self", "state", "place", "ahead"] (defScope sWE) := ⟨rfl, rfl, rfl, by decide +kernel, rfl, by decide +kernel, by decide +kernel⟩
theorem ok_we {C : Addr} (T : Txt mg) (W : TWays K C) (D1 : DefOk P w K mg base "first_meeting" ["program", "place", "thread"] 3 (SpD fFirst))
    (h : HereM K C "enter" "Ways.enter" sWE ["self", "state", "place", "ahead"]) : MethOk P w K mg base C "enter" ["self", "state", "place", "ahead"] 4 (spWE C) := h.ok fun F => by
  refine F.ok scWE (fun vs H Q E h => ?_) (fun cdv A outer s H vs Q E hr h => ?_)
  · obtain ⟨x, d, p, home, u, t0, t, a, ah, f, v1, v2, v3, rfl, _⟩ := h
    rfl
  · obtain ⟨x, d, p, home, u, t0, t, a, ah, f, v1, v2, v3, rfl, r1, r2, r3, wo, da, dom, ok, hu', ht, ha, hac, k⟩ := h
    have nd := scWE.nd
    have hu := hu_of hr
    refine ⟨_, pss_cons (ps_set (i := 4) nd rfl (Or.inl rfl) (pe_ix (ixT K) (pv 1) pe_int (fun _ _ => rfl)))
      (pss_one (ps_for PassesOwn.never rfl (pi_range1 rfl T.range (pa_cons (pe_callB call_len_seq (by rfl) T.len PySem.boot_len (pa_cons (pe_fld (pv 0) rfl) pa_nil)) pa_nil)) (pg_name (i := 5) nd rfl (.inl rfl))
        (pss_cons (ps_set (i := 6) nd rfl (Or.inl rfl) (pe_ifExp (pt_cmpR op_eq (pe_op op_and (pe_op op_shr (pv 4) (pv 5)) pe_int) pe_int (nomark _)) (pe_def D1 hr rfl (pa_cons (pe_fld (pv 0) rfl) (pa_cons (pv 2) (pa_cons (pv 5) pa_nil))) pass0) pe_non))
        (pss_cons (ps_set (i := 7) nd rfl (Or.inl rfl) (pe_tup (pa_cons (pe_op op_or (pv 4) (pe_op op_shl pe_int (pv 5))) (pa_cons (pv 5) pa_nil))))
        (pss_one (ps_if (PW.pt (pw_and (pt_cmpR op_notN (pv 6) pe_non (by rfl)) (pw_and1 (PW.pt (pw_or (pt_cmp (pc_dnotin hu (pv 7) (pe_fld (pv 0) rfl))) (pw_or1 (pt_cmpR op_lt (pv 6) (pe_ix (ixT K) (pe_dget hu (pe_fld (pv 0) rfl) (pv 7) (fun _ _ => rfl)) pe_int (fun _ _ => rfl)) (nomark _))))))))
          (pss_one (ps_dput hu (pe_fld (pv 0) rfl) (pv 7) (pe_tup (pa_cons (pv 6) (pa_cons (pv 3) (pa_cons (pe_ix (ixT K) (pv 2) pe_int (fun _ _ => rfl)) pa_nil)))) rfl)) pss_nil)))))), ?_⟩
    have hfew := ok.few
    refine q_asgR (evd_ix (evd_var rfl r1) evd_int atI_0) fun vu H1 e1 ru => ?_
    obtain ⟨dx, vP, hx, rP⟩ := (wo.ext e1).ex
    have da1 := da.ex e1
    rw [ru.int_inv]
    refine s_forR (evds1 (evd_len (evd_fld (ev_ref rfl) hx W.cl W.nT rfl rP))) (by rw [List.length_map]; omega) (fun i σ' H' => ExB d H1 H' ∧ DA wvD H' d (enterL p u t a ah f (List.range i)) ∧ ∃ x5 x6 x7, σ' = [some (.ref x), some v1, some v2, some v3, some (.int (u : Nat)), x5, x6, x7])
      (fun H2 e2 => ⟨ExB.of e2, da1.ex e2, _, _, _, rfl⟩) (fun o σ' H' ho ⟨eb, dai, x5, x6, x7, es⟩ => ?_) (fun σ' H' ⟨eb, dai, x5, x6, x7, es⟩ => k H' ((ExB.of e1).trans eb) (dai.is (by rw [List.length_map])))
    subst es
    rw [List.length_map] at ho
    have tk := da1.tk eb
    obtain ⟨dx', vP', hx', rP'⟩ := ((wo.ext e1).exb da1 eb).ex
    obtain ⟨kv0, hd0, _⟩ := id da1
    have R1 : Td H' v1 (intsT [u, t0]) := (r1.ex e1).keep tk
    have R2 : Td H' v2 (plD t a) := (r2.ex e1).keep tk
    have R3 : Td H' v3 (ahD ah) := (r3.ex e1).keep tk
    have domi : Dom (enterL p u t a ah f (List.range o)) := dom.enterL hfew hu' fun y hy => Nat.lt_trans (List.mem_range.mp hy) ho
    generalize hfi : enterL p u t a ah f (List.range o) = fi at dai domi
    -- entry
    let fm : Option Nat := if u.testBit o = true then none else firstMeet (ins p t a) (th p o)
    refine q_asgR (R := Dt (optD fm)) (evr_if (b := !u.testBit o) (et_is (evt_B (evd_eqI (evd_I0 (g := fun i j => Builtin.bitAnd i j) (evd_I (g := fun i j => i / 2 ^ j.toNat) (i := (u : Nat)) (j := (o : Nat)) (evd_var rfl (.int _)) (evd_var rfl (.int _)) (Int.natCast_nonneg _)) evd_int) evd_int)) (bit_test u o))
        (fun hb => (evd_call (evds_cons (evd_fld (ev_ref rfl) hx' W.cl W.nT rfl rP') (evds_cons (evd_var rfl R2) (evds1 (evd_var rfl (.int _))))) ⟨p, t, a, o, rfl, ok, ht, ha, hac, ho, rfl⟩).is ?_) (fun hb => evd_non.is ?_)) fun ve H2 e2 re => ?_
    · show optD _ = optD (if u.testBit o = true then none else firstMeet (ins p t a) (th p o))
      rw [if_neg (by simpa using hb)]
    · show PyData.none = optD (if u.testBit o = true then none else firstMeet (ins p t a) (th p o))
      rw [if_pos (by simpa using hb)]; rfl
    -- later
    refine q_asgR (evd_tup (ds := [.int ((u ||| 2 ^ o : Nat) : Int), .int (o : Nat)]) (evds_cons ((evd_I0 (g := fun i j => Builtin.bitOr i j) (evd_var rfl (.int _)) (evd_I (g := fun i j => i * 2 ^ j.toNat) (i := 1) (j := (o : Nat)) evd_int (evd_var rfl (.int _)) (shl_ok (by omega)))).is (by rw [or_key])) (evds1 (evd_var rfl (.int _)))) (by show 2 ≤ 100000; decide)) fun vl H3 e3 rl => ?_
    have e23 := e2.trans e3
    have da3 := dai.ex e23
    have hx3 := e23 _ _ hx'
    have rl : Td H3 vl (intsT [u ||| 2 ^ o, o]) := rl
    have cases1 := enter1_cases (p := p) (u := u) (t := t) (a := a) (ah := ah) (f := fi) o
    have hfm : ∀ e, fm = some e ↔ (u.testBit o = false ∧ firstMeet (ins p t a) (th p o) = some e) := fun e => by
      show (if u.testBit o = true then none else firstMeet (ins p t a) (th p o)) = some e ↔ _
      cases u.testBit o <;> simp
    have evk : EvD (tVar 7) [some (V.ref x), some v1, some v2, some v3, some (V.int (u : Nat)), some (V.int (o : Nat)), some ve, some vl] H3 (intsT [u ||| 2 ^ o, o]) := evd_var rfl rl
    have evd0 : Ev (tFld K (tVar 0) "entries") [some (V.ref x), some v1, some v2, some v3, some (V.int (u : Nat)), some (V.int (o : Nat)), some ve, some vl] H3 (.ref d) := ev_fld (ev_ref rfl) hx3 W.cl W.nE rfl
    -- the test: is there something better
    refine s_when (b := decide (∃ e, fm = some e ∧ ∀ v, fi [u ||| 2 ^ o, o] = some v → e < v.e)) ?_ (fun hb H4 e4 => ?_) (fun hb H4 e4 => ?_)
    · cases hm : fm with
      | none =>
        refine et_is (et_and (a := false) (evt_B ((evd_notN (evd_var rfl (re.ex e3))).is (by rw [hm]; rfl))) (b := true) fun hc => (by cases hc)) ?_
        rw [decide_eq_false fun ⟨e, he, _⟩ => (by cases he)]; rfl
      | some e =>
        refine et_is (et_and (a := true) (evt_B ((evd_notN (evd_var rfl (re.ex e3))).is (by rw [hm]; rfl))) fun _ => et_or (b := match fi [u ||| 2 ^ o, o] with | none => true | some v => decide (e < v.e)) (evt_B (evd_dnotin evk evd0 da3)) fun hc => ?_) (b := decide (∃ e', some e = some e' ∧ ∀ v, fi [u ||| 2 ^ o, o] = some v → e' < v.e)) ?_
        · cases hk : fi [u ||| 2 ^ o, o] with
          | none => rw [hk] at hc; cases hc
          | some v =>
            refine et_is (evt_B (evd_I0b (g := fun i j => decide (i < j)) (i := (e : Nat)) (j := (v.e : Nat)) ((evd_var rfl (re.ex e3)).is (by rw [hm]; rfl)) (evd_ix (evd_dget (DD := wvD) evd0 evk da3 hk) evd_int atI_0))) ?_
            exact decide_eq_decide.mpr Int.ofNat_lt
        · cases hk : fi [u ||| 2 ^ o, o] with
          | none => simp
          | some v => simp
    · obtain ⟨e, he, hl⟩ := of_decide_eq_true hb
      rw [he] at re
      refine s_dput (y := (⟨e, ah, a⟩ : WV)) (evd_tup (ds := [.int (e : Nat), ahD ah, .int (a : Nat)]) (evds_cons (evd_var rfl ((re.ex e3).ex e4)) (evds_cons (evd_var rfl ((R3.ex e23).ex e4)) (evds1 (evd_ix (evd_var rfl ((R2.ex e23).ex e4)) evd_int atI_1)))) (by show 3 ≤ 100000; decide))
        (fun H5 e5 => evd0 H5 (e4.trans e5)) (evk.mono e4) (da3.ex e4) (fun kvs H5 _ _ F => Nat.lt_of_le_of_lt (domi.len F) (by decide)) fun H5 e5 da5 => ?_
      refine ⟨(eb.trans (ExB.of (e23.trans e4))).trans e5, da5.is ?_, _, _, _, rfl⟩
      rw [range_enter, hfi]
      rcases cases1 with ⟨_, h2 | h2 | ⟨e', v, h2, h3, h4⟩⟩ | ⟨h1, e', h2, h3, h4⟩
      · rw [((hfm e).mp he).1] at h2; cases h2
      · rw [((hfm e).mp he).2] at h2; cases h2
      · rw [((hfm e).mp he).2] at h2; cases h2
        have := hl v h3
        omega
      · rw [((hfm e).mp he).2] at h2; cases h2
        exact h4.symm
    · refine ⟨eb.trans (ExB.of (e23.trans e4)), (da3.ex e4).is ?_, _, _, _, rfl⟩
      rw [range_enter, hfi]
      rcases cases1 with ⟨h1, _⟩ | ⟨h1, e', h2, h3, h4⟩
      · exact h1.symm
      · exact absurd ⟨e', (hfm e').mpr ⟨h1, h2⟩, h3⟩ (of_decide_eq_false hb)
end
end RFW
end

section
set_option Elab.async false
set_option linter.all false
set_option maxRecDepth 100000
set_option maxHeartbeats 4000000
/-! Ways: go_on, __init__. -/
namespace RFW
open PySem L2 Evl RF
abbrev natsD (ns : List Nat) : List PyData := ns.map fun n : Nat => PyData.int (n : Int)
theorem WInv.dom {p : P'} {home late U T : Nat} {f : WF} (h : WInv p home late U T f) (hh : home < p.length) (hp : p.length ≤ 6) : Dom f := fun k hk => by
  cases e : f k with
  | none => exact absurd e hk
  | some v =>
    obtain ⟨u, t, rfl, h1, h2, _⟩ := h.key e hh
    exact ⟨u, t, rfl, Nat.lt_of_lt_of_le h1 (pow_few hp), Nat.lt_of_lt_of_le h2 hp⟩
structure WaysAt (C : Addr) (H : Hp) (x : Addr) (p : P') (home late : Nat) : Prop where
  ex : ∃ d f, WO C H x d p home ∧ DA wvD H d f ∧ WInv p home late (2 ^ p.length) 0 f
theorem WaysAt.ext {C : Addr} {H H' : Hp} {x : Addr} {p : P'} {home late : Nat} (h : WaysAt C H x p home late) (e : Ex H H') : WaysAt C H' x p home late := by
  obtain ⟨d, f, h1, h2, h3⟩ := h.ex
  exact ⟨d, f, h1.ext e, h2.ex e, h3⟩
/-- its dict is new since H0 -/
structure WaysNew (C : Addr) (H0 H : Hp) (x : Addr) (p : P') (home late : Nat) : Prop where
  ex : ∃ d f, H0 d = none ∧ WO C H x d p home ∧ DA wvD H d f ∧ WInv p home late (2 ^ p.length) 0 f
theorem WaysNew.at {C : Addr} {H0 H : Hp} {x : Addr} {p : P'} {home late : Nat} (h : WaysNew C H0 H x p home late) : WaysAt C H x p home late := by
  obtain ⟨d, f, _, h1, h2, h3⟩ := h.ex
  exact ⟨d, f, h1, h2, h3⟩
theorem WaysNew.from {C : Addr} {Hb H0 H : Hp} {x : Addr} {p : P'} {home late : Nat} (h : WaysNew C H0 H x p home late) (e : Ex Hb H0) : WaysNew C Hb H x p home late := by
  obtain ⟨d, f, h0, h1, h2, h3⟩ := h.ex
  exact ⟨d, f, fresh_back e h0, h1, h2, h3⟩
theorem WaysNew.exb {C : Addr} {H0 H H' : Hp} {x a : Addr} {p : P'} {home late : Nat} (h : WaysNew C H0 H x p home late) {kv : List (List Key × V)} {o : HO} (h0 : H0 a = some o) (h1 : H a = some (.dT kv)) (e : ExB a H H') : WaysNew C H0 H' x p home late := by
  obtain ⟨d, f, hd, ⟨dx, vP, q1, q2⟩, ⟨kvs, q3, q4⟩, q5⟩ := h.ex
  have tk := e.tk h1
  have hda : d ≠ a := fun z => by rw [z, h0] at hd; cases hd
  exact ⟨d, f, hd, ⟨dx, vP, e _ _ q1 (ne_of q1 h1 (by intro z; cases z)), q2.keep tk⟩, ⟨kvs, e _ _ q3 hda, q4.imp fun v x r => r.keep tk⟩, q5⟩
theorem goL_take {p : P'} {u t : Nat} {f : WF} {ns : List Nat} {i a : Nat} (h : ns[i]? = some a) : goL p u t f (ns.take (i + 1)) = enterL p u t a (some (u, t)) (goL p u t f (ns.take i)) (List.range p.length) := by
  unfold goL
  rw [List.take_add_one, h, Option.toList_some, List.foldl_append]
  rfl
theorem goL_dom {p : P'} {u t : Nat} (hp : p.length ≤ 6) (hu : u < 2 ^ p.length) (ns : List Nat) : ∀ {f : WF}, Dom f → Dom (goL p u t f ns) := by
  induction ns with
  | nil => exact fun h => h
  | cons a r ih => exact fun h => ih (h.enterL hp hu fun o ho => List.mem_range.mp ho)
section
variable {P : Program} {w : World} {K : PySem.W.Frag} {mg : Str → Option Value} {base : Heap}
/-- self, state -/
def spWG (C : Addr) : Sp := fun vs H Q _ => ∃ (x d : Addr) (p : P') (home u t : Nat) (f : WF) (v1 : V), vs = [.ref x, v1] ∧ Td H v1 (intsT [u, t]) ∧ WO C H x d p home ∧ DA wvD H d f ∧ Dom f ∧
  ProgOk p ∧ u < 2 ^ p.length ∧ t < p.length ∧ (∀ v, f [u, t] = some v → v.e < (th p t).length) ∧ ∀ H' f', ExB d H H' → DA wvD H' d f' → ((f [u, t] = none ∧ f' = f) ∨ ∃ v ns, f [u, t] = some v ∧ (∀ a, a ∈ ns ↔ IsExit (th p t) v.e a) ∧ f' = goL p u t f ns) → Q .non H'
theorem scWG : FnScope ["self", "state", "at"] ["self", "state"] (defScope sWG) := ⟨rfl, rfl, rfl, by decide +kernel, rfl, by decide +kernel, by decide +kernel⟩
theorem ok_wg {C : Addr} (T : Txt mg) (W : TWays K C) (D1 : DefOk P w K mg base "exits_from" ["instructions", "entry"] 2 (SpG pExits)) (M1 : MethOk P w K mg base C "enter" ["self", "state", "place", "ahead"] 4 (spWE C))
    (h : HereM K C "go_on" "Ways.go_on" sWG ["self", "state"]) : MethOk P w K mg base C "go_on" ["self", "state"] 5 (spWG C) := h.ok fun F => by
  refine F.ok scWG (fun vs H Q E h => ?_) (fun cdv A outer s H vs Q E hr h => ?_)
  · obtain ⟨x, d, p, home, u, t, f, v1, rfl, _⟩ := h
    rfl
  · obtain ⟨x, d, p, home, u, t, f, v1, rfl, r1, wo, da, dom, ok, hu', ht, hE, k⟩ := h
    have nd := scWG.nd
    have hu := hu_of hr
    refine ⟨_, pss_one (ps_if (pt_cmp (pc_din hu (pv 1) (pe_fld (pv 0) rfl)))
      (pss_one (ps_for PassesOwn.never rfl (pi_list (pe_def D1 (hr.mono (by decide)) rfl (pa_cons (pe_ix (ixT K) (pe_fld (pv 0) rfl) (pe_ix (ixT K) (pv 1) pe_int (fun _ _ => rfl)) (fun _ _ => rfl)) (pa_cons (pe_ix (ixT K) (pe_dget hu (pe_fld (pv 0) rfl) (pv 1) (fun _ _ => rfl)) pe_int (fun _ _ => rfl)) pa_nil)) pass0)) (pg_name (i := 2) nd rfl (.inl rfl))
        (pss_one (ps_expr (pe_m M1 W.cl hr (pv 0) (pa_cons (pv 1) (pa_cons (pe_tup (pa_cons (pe_ix (ixT K) (pv 1) pe_int (fun _ _ => rfl)) (pa_cons (pv 2) pa_nil))) (pa_cons (pv 1) pa_nil))) pass0))))) pss_nil), ?_⟩
    obtain ⟨dx, vP, hx, rP⟩ := wo.ex
    refine s_when (evt_B (evd_din (evd_var rfl r1) (ev_fld (ev_ref rfl) hx W.cl W.nE rfl) da)) (fun hb H1 e1 => ?_) (fun hb H1 e1 => k H1 f (ExB.of e1) (da.ex e1) (.inl ⟨by simpa using hb, rfl⟩))
    obtain ⟨v, hv⟩ : ∃ v, f [u, t] = some v := Option.isSome_iff_exists.mp hb
    have hev := hE v hv
    have hx1 := e1 _ _ hx
    refine s_forV (evr_call (evds_cons (evd_ix (evd_fld (ev_ref rfl) hx1 W.cl W.nT rfl (rP.ex e1)) (evd_ix (evd_var rfl (r1.ex e1)) evd_int atI_1) (prog_at ht)) (evds1 (evd_ix (evd_dget (DD := wvD) (ev_fld (ev_ref rfl) hx1 W.cl W.nE rfl) (evd_var rfl (r1.ex e1)) (da.ex e1) hv) evd_int atI_0)))
      fun ws H2 _ r => ⟨th p t, v.e, r, ok.short _ (th_mem ht), Nat.le_of_lt hev, rfl⟩) fun lv H2 e2 ⟨ns, hld, hnl, hns⟩ => ?_
    have e12 := e1.trans e2
    have da2 := da.ex e12
    have wo2 := wo.ext e12
    obtain ⟨kv0, hd0, _⟩ := id da2
    refine for_ld hld (fun L vs i σ' H' => H' L = some (.lst vs) ∧ TdAll H' vs (natsD ns) ∧ ExB d H2 H' ∧ DA wvD H' d (goL p u t f (ns.take i)) ∧ ∃ x2, σ' = [some (.ref x), some v1, x2])
      (fun L vs _ hL hvs => ⟨hL, hvs, ExB.refl _ _, da2, _, rfl⟩) (fun L vs i σ' H' ⟨a, b, _⟩ => ⟨a, b⟩) (fun L vs i a dd σ' H' hi ha ⟨hL, hvs, eb, dai, x2, es⟩ => ?_) (fun L vs σ' H' ⟨hL, hvs, eb, dai, x2, es⟩ => ?_)
    · subst es
      obtain ⟨a', ha', rfl⟩ : ∃ a', ns[i]? = some a' ∧ dd = .int ((a' : Nat) : Int) := by
        rw [List.getElem?_map] at hi
        obtain ⟨y, hy, e⟩ := Option.map_eq_some_iff.mp hi
        exact ⟨y, hy, e.symm⟩
      have hex := (hns a').mp (List.mem_of_getElem? ha')
      have tk := da2.tk eb
      have wo' := wo2.exb da2 eb
      obtain ⟨dx', vP', hx', rP'⟩ := wo'.ex
      have R1 : Td H' v1 (intsT [u, t]) := (r1.ex e12).keep tk
      have hdi := dai
      obtain ⟨kvi, hdi', _⟩ := id dai
      refine s_meth (ev_ref rfl) hx' rfl (evds_cons (evd_var rfl R1) (evds_cons (evd_tup (ds := [.int (t : Nat), .int (a' : Nat)]) (evds_cons (evd_ix (evd_var rfl R1) evd_int atI_1) (evds1 (evd_var rfl ha))) (by show 2 ≤ 100000; decide)) (evds1 (evd_var rfl R1)))) fun ws H3 e3 r => ?_
      obtain ⟨w1, w2, w3, rfl, s1, s2, s3⟩ := r.inv3
      refine ⟨x, d, p, home, u, t, t, a', some (u, t), goL p u t f (ns.take i), w1, w2, w3, rfl, s1, s2, s3, wo'.ext e3, dai.ex e3, goL_dom ok.few hu' _ dom, ok, hu', ht, hex.2.1, hex.2.2.1, fun H4 e4 da4 => ?_⟩
      have eb3 : ExB d H' H4 := (ExB.of e3).trans e4
      refine ⟨eb3 _ _ hL (ne_of hL hdi' (by intro z; cases z)), hvs.keep (dai.tk eb3), eb.trans eb3, da4.is (goL_take ha').symm, _, rfl⟩
    · rw [List.length_map, List.take_length] at dai
      exact k H' _ ((ExB.of e12).trans eb) dai (.inr ⟨v, ns, hv, hns, rfl⟩)
/-- self, program, home, late -/
def spWI (C : Addr) : Sp := fun vs H Q _ => ∃ (x dx : Addr) (p : P') (home late : Nat) (v1 v2 v3 : V), vs = [.ref x, v1, v2, v3] ∧ H x = some (.ins C dx []) ∧ Td H v1 (progD p) ∧ Td H v2 (.int (home : Int)) ∧ Td H v3 (.int (late : Int)) ∧
  ProgOk p ∧ home < p.length ∧ late < (th p home).length ∧ (ins p home late).isAcc = true ∧ ∀ H', ExB x H H' → WaysNew C H H' x p home late → Q .non H'
theorem scWI : FnScope ["self", "program", "home", "late", "used", "thread"] ["self", "program", "home", "late"] (defScope sWI) := ⟨rfl, rfl, rfl, by decide +kernel, rfl, by decide +kernel, by decide +kernel⟩
theorem ok_wi {C : Addr} (T : Txt mg) (W : TWays K C) (M1 : MethOk P w K mg base C "enter" ["self", "state", "place", "ahead"] 4 (spWE C)) (M2 : MethOk P w K mg base C "go_on" ["self", "state"] 5 (spWG C))
    (h : HereI K mg C "Ways" "Ways.__init__" sWI ["self", "program", "home", "late"]) : MakeOk P w K mg base C "Ways" ["self", "program", "home", "late"] 6 (spWI C) := h.ok fun F => by
  refine F.ok scWI (fun vs H Q E h => ?_) (fun cdv A outer s H vs Q E hr h => ?_)
  · obtain ⟨x, dx, p, home, late, v1, v2, v3, rfl, _⟩ := h
    rfl
  · obtain ⟨x, dx, p, home, late, v1, v2, v3, rfl, hx, r1, r2, r3, ok, hh, hlt, hac, k⟩ := h
    have nd := scWI.nd
    refine ⟨_, pss_cons (ps_fld (pv 0) (pv 1) rfl) (pss_cons (ps_fld (pv 0) (pv 2) rfl) (pss_cons (ps_fld (pv 0) pe_dnewT rfl)
      (pss_cons (ps_expr (pe_m M1 W.cl (hr.mono (by decide)) (pv 0) (pa_cons (pe_tup (pa_cons (pe_op op_shl pe_int (pv 2)) (pa_cons (pv 2) pa_nil))) (pa_cons (pe_tup (pa_cons (pv 2) (pa_cons (pv 3) pa_nil))) (pa_cons pe_non pa_nil))) pass0))
      (pss_one (ps_for PassesOwn.never rfl (pi_range1 rfl T.range (pa_cons (pe_op op_shl pe_int (pe_callB call_len_seq (by rfl) T.len PySem.boot_len (pa_cons (pv 1) pa_nil))) pa_nil)) (pg_name (i := 4) nd rfl (.inl rfl))
        (pss_one (ps_for PassesOwn.never rfl (pi_range1 rfl T.range (pa_cons (pe_callB call_len_seq (by rfl) T.len PySem.boot_len (pa_cons (pv 1) pa_nil)) pa_nil)) (pg_name (i := 5) nd rfl (.inl rfl))
          (pss_one (ps_expr (pe_m M2 W.cl hr (pv 0) (pa_cons (pe_tup (pa_cons (pv 4) (pa_cons (pv 5) pa_nil))) pa_nil) pass0)))))))))), ?_⟩
    rw [r2.int_inv]
    have hfew := ok.few
    have tkx : ∀ {H' : Hp} {fs : List (Str × V)} {o : HO}, H' x = some (.ins C dx fs) → TK H' (upd H' x o) := fun h => TK.ins h
    have exx : ∀ {H' : Hp} {o : HO}, ExB x H' (upd H' x o) := ExB.upd
    refine q_fldR (R := fun v H' => v = v1) (evr_var rfl fun _ _ => rfl) rfl hx W.cl W.nT (by show 0 < 1000; decide) fun v H1 e1 ev => ?_
    subst ev
    refine q_fldR (R := fun v H' => v = .int (home : Nat)) (evr_var rfl fun _ _ => rfl) rfl upd_same W.cl W.nH (by show 1 < 1000; decide) fun v' H2 e2 ev => ?_
    subst ev
    intro d hd
    -- the heap so far: x holds two attributes
    have a2 : H2 x = some (.ins C dx (putF "threads" v [])) := e2 _ _ upd_same
    have hdx : d ≠ x := fun z => by rw [z, upd_same] at hd; cases hd
    refine ⟨_, rfl, x, C, dx, _, rfl, (by rw [upd_ne hdx.symm]; exact upd_same), W.cl, W.nE, (by show 2 < 1000; decide), ?_⟩
    generalize hH3 : upd (upd (upd H2 x (.ins C dx (putF "home" (.int (home : Nat)) (putF "threads" v [])))) d (.dT [])) x (.ins C dx (putF "entries" (.ref d) (putF "home" (.int (home : Nat)) (putF "threads" v [])))) = H3
    have hx3 : H3 x = some (.ins C dx (wFs v home d)) := by rw [← hH3]; exact upd_same
    have hd3 : H3 d = some (.dT []) := by rw [← hH3, upd_ne hdx, upd_same]
    have hd2 : H2 d = none := by rw [upd_ne hdx] at hd; exact hd
    have hdH : H d = none := by
      have := fresh_back e2 hd2
      rw [upd_ne hdx] at this
      exact fresh_back e1 this
    have exb : ExB x H H3 := by
      rw [← hH3]
      refine (((((ExB.of e1).trans exx).trans (ExB.of e2)).trans exx).trans (ExB.of (Ex.new hd))).trans exx
    have tk3 : TK H H3 := fun b xs hb => exb b _ hb fun z => by rw [z, hx] at hb; cases hb
    have R1 : Td H3 v (progD p) := r1.keep tk3
    have R3 : Td H3 v3 (.int (late : Nat)) := r3.keep tk3
    have wo3 : WO C H3 x d p home := ⟨dx, v, hx3, R1⟩
    have da3 : DA wvD H3 d (fun _ => none) := ⟨[], hd3, DF.nil⟩
    refine q_meth (ev_ref rfl) hx3 rfl (evds_cons (evd_tup (ds := [.int ((2 ^ home : Nat) : Int), .int (home : Nat)]) (evds_cons ((evd_I (g := fun i j => i * 2 ^ j.toNat) (i := 1) (j := (home : Nat)) evd_int (evd_var rfl (.int _)) (shl_ok (by omega))).is (by rw [shl_key])) (evds1 (evd_var rfl (.int _)))) (by show 2 ≤ 100000; decide))
      (evds_cons (evd_tup (ds := [.int (home : Nat), .int (late : Nat)]) (evds_cons (evd_var rfl (.int _)) (evds1 (evd_var rfl R3))) (by show 2 ≤ 100000; decide)) (evds1 evd_non))) fun ws H4 e4 r => ?_
    obtain ⟨w1, w2, w3, rfl, s1, s2, s3⟩ := r.inv3
    refine ⟨x, d, p, home, 2 ^ home, home, home, late, none, fun _ => none, w1, w2, w3, rfl, s1, s2, s3, wo3.ext e4, da3.ex e4, fun k hk => absurd rfl hk, ok, Nat.pow_lt_pow_right (by decide) hh, hh, hlt, hac, fun H5 e5 da5 => ?_⟩
    have eb5 : ExB d H3 H5 := (ExB.of e4).trans e5
    have wo5 := wo3.exb da3 eb5
    have R5 : Td H5 v (progD p) := R1.keep (da3.tk eb5)
    have w5 : WInv p home late 0 0 _ := WInv.start
    have lenp : ∀ {σ : L2.St} {H' : Hp}, σ[1]? = some (some v) → Td H' v (progD p) → EvD (tCB (rLenS K) (tCons (tVar 1) tNil)) σ H' (.int (p.length : Nat)) := fun h r => (evd_len (evd_var h r)).is (by rw [List.length_map])
    refine s_forR (n := 2 ^ p.length) (evds1 ((evd_I (g := fun i j => i * 2 ^ j.toNat) (i := 1) (j := (p.length : Nat)) evd_int (lenp rfl R5) (shl_ok hfew)).is (by rw [shl_key]))) (Nat.le_trans (pow_few hfew) (by decide))
      (fun U σ' H' => ∃ f x4 x5, ExB d H5 H' ∧ DA wvD H' d f ∧ WInv p home late U 0 f ∧ σ' = [some (.ref x), some v, some (.int (home : Nat)), some v3, x4, x5]) (fun H6 e6 => ⟨_, _, _, ExB.of e6, da5.ex e6, w5, rfl⟩) (fun U σ' H' hU ⟨f, x4, x5, eb, da', wi, es⟩ => ?_) (fun σ' H' ⟨f, x4, x5, eb, da', wi, es⟩ => ?_)
    · subst es
      have R' : Td H' v (progD p) := R5.keep (da5.tk eb)
      refine s_forR (n := p.length) (evds1 (lenp rfl R')) (by omega) (fun T' σ'' H'' => ∃ f x5, ExB d H5 H'' ∧ DA wvD H'' d f ∧ WInv p home late U T' f ∧ σ'' = [some (.ref x), some v, some (.int (home : Nat)), some v3, some (.int (U : Nat)), x5])
        (fun H6 e6 => ⟨f, _, eb.trans (ExB.of e6), da'.ex e6, wi, rfl⟩) (fun T' σ'' H'' hT ⟨f, x5, eb, da', wi, es⟩ => ?_) (fun σ'' H'' ⟨f, x5, eb, da', wi, es⟩ => ⟨f, _, _, eb, da', wi.next hh, es⟩)
      subst es
      have wo' := wo5.exb da5 eb
      obtain ⟨dx', vP', hx', rP'⟩ := wo'.ex
      refine s_meth (ev_ref rfl) hx' rfl (evds1 (evd_tup (ds := [.int (U : Nat), .int (T' : Nat)]) (evds_cons (evd_var rfl (.int _)) (evds1 (evd_var rfl (.int _)))) (by show 2 ≤ 100000; decide))) fun ws H6 e6 r => ?_
      obtain ⟨w1, rfl, s1⟩ := r.inv1
      refine ⟨x, d, p, home, U, T', f, w1, rfl, s1, wo'.ext e6, da'.ex e6, wi.dom hh hfew, ok, hU, hT, fun v hv => ?_, fun H7 f' e7 da7 hf => ?_⟩
      · obtain ⟨u2, t2, e, _, _, hl⟩ := wi.key hv hh
        have : T' = t2 := (List.cons.inj (List.cons.inj e).2).1
        rw [this]; exact hl
      · refine ⟨f', _, (eb.trans (ExB.of e6)).trans e7, da7, ?_, rfl⟩
        rcases hf with ⟨h1, rfl⟩ | ⟨v, ns, h1, h2, rfl⟩
        · exact wi.skip h1
        · exact wi.go h1 h2
    · refine k H' (fun a o ha hne => ?_) ⟨d, f, hdH, wo5.exb da5 eb, da', wi⟩
      have had : a ≠ d := ne_of_none ha hdH
      exact eb _ _ (eb5 _ _ (exb a o ha hne) had) had
end
end RFW
end

section
set_option Elab.async false
set_option linter.all false
set_option maxRecDepth 100000
set_option maxHeartbeats 4000000
/-! Ways: ring_over, ring_to. -/
namespace RFW
open PySem L2 Evl RF
section
variable {K : PySem.W.Frag} {σ : L2.St} {H H' : Hp} {tA : TA} {d1 d2 : PyData} {D : Ends}
theorem s_par {i j : Nat} (h : EvDs tA σ H [d1, d2]) (k : ∀ v1 v2 H1, Ex H H1 → Td H1 v1 d1 → Td H1 v2 d2 → D.nx ((σ.set i (some v1)).set j (some v2)) H1) : tPar i j tA D σ H :=
  h H (Ex.refl H) _ fun vs H1 e r => by
    obtain ⟨v1, v2, rfl, r1, r2⟩ := r.inv2
    exact ⟨v1, v2, rfl, k v1 v2 H1 e r1 r2⟩
end
theorem isNone_ah (o : Option (Nat × Nat)) : isNone (ahD o) = o.isNone := by cases o <;> rfl
/-- how far a state is from the start -/
def stM : Option (Nat × Nat) → Nat
  | none => 0
  | some (u, _) => u + 1
section
variable {P : Program} {w : World} {K : PySem.W.Frag} {mg : Str → Option Value} {base : Heap}
/-- self, state, at -/
def pRO (C : Addr) (vs : List V) (H : Hp) (R : Rel) : Prop := ∃ (x d : Addr) (p : P') (home late u t a : Nat) (f : WF) (v1 v2 : V), vs = [.ref x, v1, v2] ∧ Td H v1 (intsT [u, t]) ∧ Td H v2 (.int (a : Int)) ∧ WO C H x d p home ∧ DA wvD H d f ∧
  WInv p home late (2 ^ p.length) 0 f ∧ Dom f ∧ f [u, t] ≠ none ∧ R = fun v H' => ∃ ds, Td H' v (.tuple ds)
theorem scRO : FnScope ["self", "state", "at", "found", "entry", "ahead", "exit_ahead"] ["self", "state", "at"] (defScope sWO) := ⟨rfl, rfl, rfl, by decide +kernel, rfl, by decide +kernel, by decide +kernel⟩
theorem ok_ro {C : Addr} (T : Txt mg) (W : TWays K C) (h : HereM K C "ring_over" "Ways.ring_over" sWO ["self", "state", "at"]) : MethOk P w K mg base C "ring_over" ["self", "state", "at"] 1 (SpG (pRO C)) := h.ok fun F => by
  refine F.ok scRO (fun vs H Q E h => ?_) (fun cdv A outer s H vs Q E hr h => ?_)
  · obtain ⟨_, ⟨x, d, p, home, late, u, t, a, f, v1, v2, rfl, _⟩, _⟩ := h
    rfl
  · obtain ⟨_, ⟨x, d, p, home, late, u, t, a, f, v1, v2, rfl, r1, r2, wo, da, wi, dom, hf, rfl⟩, k⟩ := h
    have nd := scRO.nd
    have hu := hu_of hr
    refine ⟨_, pss_cons (ps_set (i := 3) nd rfl (Or.inl rfl) (pe_lst pa_nil))
      (pss_cons (ps_while PassesOwn.never (pt_cmpR op_notN (pv 1) pe_non (by rfl))
        (pss_cons (ps_asg (pe_dget hu (pe_fld (pv 0) rfl) (pv 1) (fun _ _ => rfl)) (pg_tup (by rfl) (pgs_cons (pg_name (i := 4) nd rfl (.inl rfl)) (pgs_cons (pg_name (i := 5) nd rfl (.inl rfl)) (pgs_cons (pg_name (i := 6) nd rfl (.inl rfl)) pgs_nil)))))
        (pss_cons (ps_expr (pe_bm PySem.F.plainAttrs_list PySem.F.slot_list_append PySem.F.type_list_append mt_append (pv 3) (pa_cons (pe_tup (pa_cons (pe_ix (ixT K) (pv 1) pe_int (fun _ _ => rfl)) (pa_cons (pv 4) (pa_cons (pv 2) pa_nil)))) pa_nil)))
        (pss_one (ps_par (by rfl) nd (i := 1) (j := 2) rfl rfl (by decide) rfl rfl (pa_cons (pv 5) (pa_cons (pv 6) pa_nil)) (by rfl))))))
      (pss_one (ps_ret (pe_callTy call_tuple_of (by rfl) T.tuple PyProof.Rows.boot_tuple (pa_cons (pe_revL (pv 3)) pa_nil))))), ?_⟩
    obtain ⟨u0, t0, e0, hu0, _⟩ := dom _ hf
    have hu64 : u < 64 := by rw [(List.cons.inj e0).1]; exact hu0
    refine q_asgLd (evld_lst evds_nil (by decide)) fun L H1 g0 => ?_
    obtain ⟨dx, vP, hx, rP⟩ := wo.ex
    refine q_while (fun m σ' H' => ∃ (cur : Option (Nat × Nat)) (a' : Nat) (vs va : V) (out : List PyData) (x4 x5 x6 : Option V), σ' = [some (.ref x), some vs, some va, some (.ref L), x4, x5, x6] ∧ Td H' vs (ahD cur) ∧ Td H' va (.int (a' : Nat)) ∧ Gr H L out H' ∧ stM cur = m ∧ (∀ u t, cur = some (u, t) → f [u, t] ≠ none) ∧ out.length + m ≤ 65)
      (u + 1) ⟨some (u, t), a, v1, v2, [], _, _, _, rfl, r1.ex g0.exx, r2.ex g0.exx, g0, rfl, fun u' t' e => (by cases e; exact hf), by show 0 + (u + 1) ≤ 65; omega⟩ fun m σ' H' ⟨cur, a', vs, va, out, x4, x5, x6, es, s1, s2, g, hm, hc, hl⟩ => ?_
    subst es
    refine ⟨!cur.isNone, et_is (evt_B (evd_notN (evd_var rfl s1))) (by rw [isNone_ah]), fun hb H2 e2 => ?_, fun hb H2 e2 => ?_⟩
    · cases cur with
      | none => cases hb
      | some st =>
        obtain ⟨u', t'⟩ := st
        have hne := hc u' t' rfl
        obtain ⟨v, hv⟩ : ∃ v, f [u', t'] = some v := by
          cases e : f [u', t'] with
          | none => exact absurd e hne
          | some v => exact ⟨v, rfl⟩
        have g2 := g.ext e2
        refine ⟨fun σ2 H3 => ∃ m', m' < m ∧ ∃ (cur : Option (Nat × Nat)) (a' : Nat) (vs va : V) (out : List PyData) (x4 x5 x6 : Option V), σ2 = [some (.ref x), some vs, some va, some (.ref L), x4, x5, x6] ∧ Td H3 vs (ahD cur) ∧ Td H3 va (.int (a' : Nat)) ∧ Gr H L out H3 ∧ stM cur = m' ∧ (∀ u t, cur = some (u, t) → f [u, t] ≠ none) ∧ out.length + m' ≤ 65, fun _ _ h => h, ?_⟩
        have S1 : Td H2 vs (intsT [u', t']) := s1.ex e2
        refine q_tup3 (evd_dget (DD := wvD) (ev_fld (ev_ref rfl) (g2.exx _ _ hx) W.cl W.nE rfl) (evd_var rfl S1) (da.ex g2.exx) hv) fun w1 w2 w3 H3 e3 q1 q2 q3 => ?_
        refine q_appD (g2.ext e3) rfl (evd_tup (ds := [.int (t' : Nat), .int (v.e : Nat), .int (a' : Nat)]) (evds_cons (evd_ix (evd_var rfl (S1.ex e3)) evd_int atI_1) (evds_cons (evd_var rfl q1) (evds1 (evd_var rfl ((s2.ex e2).ex e3))))) (by show 3 ≤ 100000; decide)) (by omega) fun H4 g4 tk4 => ?_
        refine s_par (evds_cons (evd_var rfl (q2.keep tk4)) (evds1 (evd_var rfl (q3.keep tk4)))) fun y1 y2 H5 e5 z1 z2 => ?_
        obtain ⟨vis, tt, c, ek, _, hah⟩ := wi.sound _ v hv
        have eu : u' = maskOf vis := (List.cons.inj ek).1
        have hm' : stM (some (u', t')) = m := hm
        have hm2 : u' + 1 = m := hm'
        have hlt : stM v.ahead < m := by
          rcases hah with h0 | ⟨u2, t2, h0, h1, h2⟩
          · rw [h0]; show 0 < m; omega
          · rw [h0]; show u2 + 1 < m; omega
        refine ⟨stM v.ahead, hlt, v.ahead, v.x, y1, y2, _, _, _, _, rfl, z1, z2, g4.ext e5, rfl, fun u3 t3 e => ?_, ?_⟩
        · rcases hah with h0 | ⟨u2, t2, h0, h1, h2⟩
          · rw [h0] at e; cases e
          · rw [h0] at e; cases e; exact h2
        · rw [List.length_append, List.length_singleton]; omega
    · have g2 := g.ext e2
      have hl2 : out.length ≤ 100000 := by omega
      refine s_retR (evd_tupL (evld_rev (evr_var rfl fun H3 e3 => (g2.ld hl2).ex e3) hl2).ld) fun v H3 e3 r => k v H3 (g2.exx.trans e3) ⟨_, r⟩
/-- self, early -/
def pRT (C : Addr) (vs : List V) (H : Hp) (R : Rel) : Prop := ∃ (x : Addr) (p : P') (home late early : Nat) (v1 : V), vs = [.ref x, v1] ∧ Td H v1 (.int (early : Int)) ∧ WaysAt C H x p home late ∧ ProgOk p ∧ home < p.length ∧ early < (th p home).length ∧ (ins p home early).isAcc = true ∧
  R = fun v H' => ∃ d, Td H' v d ∧ ∀ line room, isNone d = true ↔ ¬ Live p line room (home, early, late)
theorem scRT : FnScope ["self", "early", "goal", "state", "thread", "at"] ["self", "early"] (defScope sWR) := ⟨rfl, rfl, rfl, by decide +kernel, rfl, by decide +kernel, by decide +kernel⟩
theorem ok_rt {C : Addr} (T : Txt mg) (W : TWays K C) (D1 : DefOk P w K mg base "exits_from" ["instructions", "entry"] 2 (SpG pExits)) (D2 : DefOk P w K mg base "meets" ["program", "one", "other"] 2 (SpD fMeets)) (M1 : MethOk P w K mg base C "ring_over" ["self", "state", "at"] 1 (SpG (pRO C)))
    (h : HereM K C "ring_to" "Ways.ring_to" sWR ["self", "early"]) : MethOk P w K mg base C "ring_to" ["self", "early"] 3 (SpG (pRT C)) := h.ok fun F => by
  refine F.ok scRT (fun vs H Q E h => ?_) (fun cdv A outer s H vs Q E hr h => ?_)
  · obtain ⟨_, ⟨x, p, home, late, early, v1, rfl, _⟩, _⟩ := h
    rfl
  · obtain ⟨_, ⟨x, p, home, late, early, v1, rfl, r1, wa, ok, hh, he, hac, rfl⟩, k⟩ := h
    obtain ⟨d, f, wo, da, wi⟩ := wa.ex
    have dom := wi.dom hh ok.few
    have nd := scRT.nd
    have hu := hu_of hr
    have hu2 := hu65 hr
    refine ⟨_, pss_cons (ps_set (i := 2) nd rfl (Or.inl rfl) (pe_tup (pa_cons (pe_fld (pv 0) rfl) (pa_cons (pv 1) pa_nil))))
      (pss_cons (ps_for PassesOwn.never rfl (pi_list (pe_callB (cr_sorted_dT rfl (Nat.lt_of_le_of_lt (Nat.add_le_add_left (by decide) _) hu2)) (by rfl) T.sorted PyProof.Rows.boot_sorted (pa_cons (pe_fld (pv 0) rfl) pa_nil))) (pg_name (i := 3) nd rfl (.inl rfl))
        (pss_cons (ps_set (i := 4) nd rfl (Or.inl rfl) (pe_ix (ixT K) (pv 3) pe_int (fun _ _ => rfl)))
        (pss_one (ps_for PassesOwn.never rfl (pi_list (pe_def D1 hr rfl (pa_cons (pe_ix (ixT K) (pe_fld (pv 0) rfl) (pv 4) (fun _ _ => rfl)) (pa_cons (pe_ix (ixT K) (pe_dget hu (pe_fld (pv 0) rfl) (pv 3) (fun _ _ => rfl)) pe_int (fun _ _ => rfl)) pa_nil)) pass0)) (pg_name (i := 5) nd rfl (.inl rfl))
          (pss_one (ps_if (pt_val (pe_def D2 hr rfl (pa_cons (pe_fld (pv 0) rfl) (pa_cons (pe_tup (pa_cons (pv 4) (pa_cons (pv 5) pa_nil))) (pa_cons (pv 2) pa_nil))) pass0))
            (pss_one (ps_ret (pe_m M1 W.cl (hr.mono (by decide)) (pv 0) (pa_cons (pv 3) (pa_cons (pv 5) pa_nil)) pass0))) pss_nil))))))
      (pss_one (ps_ret pe_non))), ?_⟩
    obtain ⟨dx, vP, hx, rP⟩ := wo.ex
    refine q_asgR (evd_tup (ds := [.int (home : Nat), .int (early : Nat)]) (evds_cons (evd_fld (ev_ref rfl) hx W.cl W.nH rfl (.int _)) (evds1 (evd_var rfl r1))) (by show 2 ≤ 100000; decide)) fun vg H1 e1 rg => ?_
    have rg : Td H1 vg (plD home early) := rg
    refine q_forV (evr_sortD (K := K) (ev_fld (ev_ref rfl) (e1 _ _ hx) W.cl W.nE rfl) (da.ex e1) (fun k hk => by
      obtain ⟨u, t, rfl, _⟩ := dom k hk
      exact ⟨fun z => (by cases z), by show 2 ≤ 100; decide⟩) (fun kvs H2 _ _ F => Nat.le_trans (dom.len F) (by decide))) fun lv H2 e2 ⟨ks, hld, hks⟩ => ?_
    let clean : Nat → Nat → Prop := fun u t => ∀ v, f [u, t] = some v → ∀ a, IsExit (th p t) v.e a → (ins p t a).meets (ins p home early) = false
    refine for_ld hld (fun L vs i σ' H' => H' L = some (.lst vs) ∧ TdAll H' vs (ks.map intsT) ∧ Ex H2 H' ∧ (∀ j u t, j < i → ks[j]? = some [u, t] → clean u t) ∧ ∃ x3 x4 x5, σ' = [some (.ref x), some v1, some vg, x3, x4, x5])
      (fun L vs _ hL hvs => ⟨hL, hvs, Ex.refl _, fun j u t hj => absurd hj (Nat.not_lt_zero _), _, _, _, rfl⟩) (fun L vs i σ' H' ⟨a, b, _⟩ => ⟨a, b⟩) (fun L vs i sv dd σ' H' hi hs ⟨hL, hvs, eb, hcl, x3, x4, x5, es⟩ => ?_) (fun L vs σ' H' ⟨hL, hvs, eb, hcl, x3, x4, x5, es⟩ => ?_)
    · subst es
      rw [List.getElem?_map] at hi
      obtain ⟨kk, hkk, rfl⟩ := Option.map_eq_some_iff.mp hi
      have hne := (hks kk).mp (List.mem_of_getElem? hkk)
      obtain ⟨u, t, rfl, hu64, ht6⟩ := dom kk hne
      obtain ⟨v, hv⟩ : ∃ v, f [u, t] = some v := by
        cases e : f [u, t] with
        | none => exact absurd e hne
        | some v => exact ⟨v, rfl⟩
      obtain ⟨u2, t2, ek, hu2', ht2, hve⟩ := wi.key hv hh
      have et : t = t2 := (List.cons.inj (List.cons.inj ek).2).1
      subst et
      have E1 := (e1.trans e2).trans eb
      refine q_asgR (R := Dt (.int (t : Nat))) (evd_ix (evd_var rfl hs) evd_int atI_1) fun vt H3 e3 rt => ?_
      rw [rt.int_inv]
      have E3 := E1.trans e3
      refine s_forV (evr_call (evds_cons (evd_ix (evd_fld (ev_ref rfl) (E3 _ _ hx) W.cl W.nT rfl (rP.ex E3)) (evd_var rfl (.int _)) (prog_at ht2)) (evds1 (evd_ix (evd_dget (DD := wvD) (ev_fld (ev_ref rfl) (E3 _ _ hx) W.cl W.nE rfl) (evd_var rfl (hs.ex e3)) (da.ex E3) hv) evd_int atI_0)))
        fun ws H4 _ r => ⟨th p t, v.e, r, ok.short _ (th_mem ht2), Nat.le_of_lt hve, rfl⟩) fun lv2 H4 e4 ⟨ns, hld2, hnl, hns⟩ => ?_
      have E4 := E3.trans e4
      refine for_ld hld2 (fun L2 vs2 j σ' H' => H' L2 = some (.lst vs2) ∧ TdAll H' vs2 (natsD ns) ∧ Ex H4 H' ∧ (∀ i a, i < j → ns[i]? = some a → (ins p t a).meets (ins p home early) = false) ∧ ∃ x5, σ' = [some (.ref x), some v1, some vg, some sv, some (.int (t : Nat)), x5])
        (fun L2 vs2 _ hL2 hvs2 => ⟨hL2, hvs2, Ex.refl _, fun i a hi => absurd hi (Nat.not_lt_zero _), _, rfl⟩) (fun L2 vs2 i σ' H' ⟨a, b, _⟩ => ⟨a, b⟩) (fun L2 vs2 j av dd σ' H' hj hav ⟨hL2, hvs2, eb2, hno, x5, es⟩ => ?_) (fun L2 vs2 σ' H' ⟨hL2, hvs2, eb2, hno, x5, es⟩ => ?_)
      · subst es
        rw [List.getElem?_map] at hj
        obtain ⟨a, ha, rfl⟩ := Option.map_eq_some_iff.mp hj
        have hex := (hns a).mp (List.mem_of_getElem? ha)
        have E5 := E4.trans eb2
        refine s_when (evt_B (evd_call (evds_cons (evd_fld (ev_ref rfl) (E5 _ _ hx) W.cl W.nT rfl (rP.ex E5)) (evds_cons (evd_tup (ds := [.int (t : Nat), .int (a : Nat)]) (evds_cons (evd_var rfl (.int _)) (evds1 (evd_var rfl hav))) (by show 2 ≤ 100000; decide)) (evds1 (evd_var rfl (rg.ex (((e2.trans eb).trans e3).trans (e4.trans eb2)))))))
          ⟨p, t, a, home, early, rfl, ht2, hex.2.1, hh, he, hex.2.2.1, hac, rfl⟩)) (fun hb H6 e6 => ?_) (fun hb H6 e6 => ?_)
        · have E6 := E5.trans e6
          refine s_retR (evr_meth (C := C) (R := fun v H' => ∃ ds, Td H' v (.tuple ds)) (ev_ref rfl) (E6 _ _ hx) rfl (evds_cons (evd_var rfl (hs.ex (((e3.trans e4).trans eb2).trans e6))) (evds1 (evd_var rfl (hav.ex e6)))) fun ws H7 e7 r => by
            obtain ⟨w1, w2, rfl, q1, q2⟩ := r.inv2
            exact ⟨x, d, p, home, late, u, t, a, f, w1, w2, rfl, q1, q2, wo.ext (E6.trans e7), da.ex (E6.trans e7), wi, dom, hne, rfl⟩) fun v' H7 e7 ⟨ds, hds⟩ => k v' H7 (E6.trans e7) ⟨.tuple ds, hds, fun line room => ⟨fun z => (by cases z), fun z => absurd ((wi.live hh line room).mpr ⟨u, t, v, a, hv, hex, hb⟩) z⟩⟩
        · refine ⟨e6 _ _ hL2, hvs2.ex e6, eb2.trans e6, fun i a' hi ha' => ?_, _, rfl⟩
          rcases Nat.lt_succ_iff_lt_or_eq.mp hi with h1 | rfl
          · exact hno i a' h1 ha'
          · rw [ha] at ha'; cases ha'; exact hb
      · subst es
        rw [List.length_map] at hno
        have e34 := (e3.trans e4).trans eb2
        refine ⟨e34 _ _ hL, hvs.ex e34, eb.trans e34, fun j u' t' hj hkj => ?_, _, _, _, rfl⟩
        rcases Nat.lt_succ_iff_lt_or_eq.mp hj with h1 | rfl
        · exact hcl j u' t' h1 hkj
        · rw [hkk] at hkj
          cases hkj
          intro v' hv' a ha
          rw [hv] at hv'; cases hv'
          obtain ⟨i, hi, hia⟩ := List.getElem_of_mem ((hns a).mpr ha)
          exact hno i a hi (by rw [List.getElem?_eq_getElem hi, hia])
    · subst es
      rw [List.length_map] at hcl
      refine s_retR (σ := [some (.ref x), some v1, some vg, x3, x4, x5]) (D := { nx := fun _ H' => Q .non H', rt := Q }) evd_non fun v' H3 e3 r => k v' H3 (((e1.trans e2).trans eb).trans e3) ⟨.none, r, fun line room => ⟨fun _ z => ?_, fun _ => rfl⟩⟩
      obtain ⟨u, t, v, a, h1, h2, h3⟩ := (wi.live hh line room).mp z
      obtain ⟨i, hi, hik⟩ := List.getElem_of_mem ((hks [u, t]).mpr (by rw [h1]; exact fun z => (by cases z)))
      have := hcl i u t hi (by rw [List.getElem?_eq_getElem hi, hik]) v h1 a h2
      rw [h3] at this
      cases this
end
end RFW
end

section
set_option Elab.async false
set_option linter.all false
set_option maxRecDepth 100000
set_option maxHeartbeats 4000000
/-! Dicts with keys of numbers and any values. -/
namespace RFW
open PySem L2 Evl
theorem valV_out {kvs : List (List Key × V)} {k : List Key} (h : k ∉ kvs.map (·.1)) : valV kvs k = none := by
  cases e : valV kvs k with
  | none => rfl
  | some v => exact absurd (valV_in e) h
section
variable {K : PySem.W.Frag} {σ : L2.St} {H H' : Hp} {ta tb te td ty tv : TE} {kvs : List (List Key × V)} {d : Addr} {k : List Nat} {D : Ends} {tz : TS} {v : V}
theorem evd_notinV (hk : EvD ty σ H (intsT k)) (hd : Ev td σ H (.ref d)) (h : H d = some (.dT kvs)) : EvD (tDNotIn ty td) σ H (.bool (!(valV kvs (kI k)).isSome)) := fun H1 e1 Q q =>
  hk H1 e1 _ fun y H2 e2 r => hd H2 (e1.trans e2) _ fun H3 e3 => by
    obtain ⟨b, rfl, hb⟩ := (r.ex e3).key
    exact ⟨d, _, rfl, DGet.t (((e1.trans e2).trans e3) _ _ h) hb, q _ H3 (e2.trans e3) (.bl _)⟩
theorem ev_dgetV (hd : Ev td σ H (.ref d)) (hk : EvD ty σ H (intsT k)) (h : H d = some (.dT kvs)) (e : valV kvs (kI k) = some v) : Ev (tDGet td ty) σ H v := fun H1 e1 Q q =>
  hd H1 e1 _ fun H2 e2 => hk H2 (e1.trans e2) _ fun u H3 e3 r => by
    obtain ⟨b, rfl, hb⟩ := r.key
    exact ⟨d, v, rfl, by rw [← e]; exact DGet.t (((e1.trans e2).trans e3) _ _ h) hb, q H3 (e2.trans e3)⟩
theorem s_dputV {R : Rel} (hv : EvR tv σ H R) (hd : Ev td σ H (.ref d)) (hk : EvD ty σ H (intsT k)) (h : H d = some (.dT kvs)) (hl : kvs.length < sizeLine)
    (q : ∀ v H1 H2, Ex H H1 → R v H1 → Ex H1 H2 → H2 d = some (.dT kvs) → D.nx σ (upd H2 d (.dT (putK kvs (kI k) v)))) : sDPut td ty tv D σ H :=
  hv H (Ex.refl H) _ fun v H1 e1 r1 => hd H1 e1 _ fun H2 e2 => hk H2 (e1.trans e2) _ fun u H3 e3 r3 => by
    obtain ⟨b, rfl, hb⟩ := r3.key
    have h3 := ((e1.trans e2).trans e3) _ _ h
    exact ⟨d, _, rfl, DPut.t h3 hb hl, q v H1 H3 e1 r1 (e2.trans e3) h3⟩
end
end RFW
end

section
set_option Elab.async false
set_option linter.all false
set_option maxRecDepth 100000
set_option maxHeartbeats 4000000
/-! pairs: rings_of, live_pairs. -/
namespace RFW
open PySem L2 Evl RF
abbrev sRings : Stmt := top 20
abbrev sLive : Stmt := top 21
def triK (q : Tri) : List Nat := [q.1, q.2.1, q.2.2]
theorem triD_eq (q : Tri) : triD q = intsT (triK q) := rfl
theorem triK_inj {a b : Tri} (h : triK a = triK b) : a = b := by
  obtain ⟨a1, a2, a3⟩ := a
  obtain ⟨b1, b2, b3⟩ := b
  unfold triK at h
  simp only [List.cons.injEq, and_true] at h
  obtain ⟨h1, h2, h3⟩ := h
  rw [h1, h2, h3]
open Classical in
noncomputable def liveB (p : P') (line : Bool) (room : Nat) (q : Tri) : Bool := decide (Live p line room q)
open Classical in
theorem liveB_iff {p : P'} {line : Bool} {room : Nat} {q : Tri} : liveB p line room q = true ↔ Live p line room q := by
  unfold liveB
  exact ⟨fun h => of_decide_eq_true h, fun h => decide_eq_true h⟩
theorem live_eq (p : P') (line : Bool) (room : Nat) : live p line room = (loose p line room).filter (liveB p line room) := rfl
theorem loose_at {p : P'} {line : Bool} {room : Nat} {q : Tri} (h : q ∈ loose p line room) : q.1 < p.length ∧ q.2.1 < q.2.2 ∧ q.2.2 < (th p q.1).length ∧ (ins p q.1 q.2.1).isStore = true ∧ (ins p q.1 q.2.2).isAcc = true := by
  obtain ⟨h1, h2, h3, h4⟩ := mem_loose.mp h
  unfold looseAt turnable at h4
  simp only [Bool.and_eq_true] at h4
  exact ⟨h1, h2, h3, h4.1.1.1.1.1, h4.1.1.1.1.2⟩
/-- a Ways whose dict is neither a nor b -/
structure WaysBut (C a b : Addr) (H : Hp) (x : Addr) (p : P') (home late : Nat) : Prop where
  ex : ∃ d f, d ≠ a ∧ d ≠ b ∧ WO C H x d p home ∧ DA wvD H d f ∧ WInv p home late (2 ^ p.length) 0 f
theorem WaysBut.at {C a b : Addr} {H : Hp} {x : Addr} {p : P'} {home late : Nat} (h : WaysBut C a b H x p home late) : WaysAt C H x p home late := by
  obtain ⟨d, f, _, _, h1, h2, h3⟩ := h.ex
  exact ⟨d, f, h1, h2, h3⟩
theorem WaysBut.ext {C a b : Addr} {H H' : Hp} {x : Addr} {p : P'} {home late : Nat} (h : WaysBut C a b H x p home late) (e : Ex H H') : WaysBut C a b H' x p home late := by
  obtain ⟨d, f, q1, q2, h1, h2, h3⟩ := h.ex
  exact ⟨d, f, q1, q2, h1.ext e, h2.ex e, h3⟩
theorem WaysBut.exb {C a b c : Addr} {H H' : Hp} {x : Addr} {p : P'} {home late : Nat} (h : WaysBut C a b H x p home late) (hc : c = a ∨ c = b) {kv : List (List Key × V)} (h1 : H c = some (.dT kv)) (e : ExB c H H') : WaysBut C a b H' x p home late := by
  obtain ⟨d, f, z1, z2, ⟨dx, vP, q1, q2⟩, ⟨kvs, q3, q4⟩, q5⟩ := h.ex
  have tk := e.tk h1
  have hda : d ≠ c := fun z => hc.elim (fun e => z1 (z.trans e)) (fun e => z2 (z.trans e))
  exact ⟨d, f, z1, z2, ⟨dx, vP, e _ _ q1 (ne_of q1 h1 (by intro z; cases z)), q2.keep tk⟩, ⟨kvs, e _ _ q3 hda, q4.imp fun v x r => r.keep tk⟩, q5⟩
/-- the Ways made so far -/
structure WKept (C : Addr) (p : P') (F d : Addr) (H : Hp) : Prop where
  ex : ∃ kvs f, H d = some (.dT kvs) ∧ DF (fun v (x : Nat × Nat) => ∃ xa, v = .ref xa ∧ WaysBut C F d H xa p x.1 x.2) kvs f ∧ ∀ k x, f k = some x → k = [x.1, x.2] ∧ x.1 < 6 ∧ x.2 < 16
theorem WKept.ext {C F d : Addr} {H H' : Hp} {p : P'} (h : WKept C p F d H) (e : Ex H H') : WKept C p F d H' := by
  obtain ⟨kvs, f, h1, h2, h3⟩ := h.ex
  exact ⟨kvs, f, e _ _ h1, h2.imp fun v x ⟨xa, a, b⟩ => ⟨xa, a, b.ext e⟩, h3⟩
section
variable {P : Program} {w : World} {K : PySem.W.Frag} {mg : Str → Option Value} {base : Heap}
/-- program, buffers ↦ a dict whose keys are the live pairs -/
def pRings (vs : List V) (H : Hp) (R : Rel) : Prop := ∃ (p : P') (line : Bool) (room : Nat), TdAll H vs [progD p, boxD line room] ∧ ProgOk p ∧
  R = fun v H' => ∃ d kvs, v = .ref d ∧ H' d = some (.dT kvs) ∧ kvs.map (·.1) = (live p line room).map fun q => kI (triK q)
theorem scRings : FnScope ["program", "buffers", "found", "ways", "pair", "thread", "early", "late", "ring"] ["program", "buffers"] (defScope sRings) := ⟨rfl, rfl, rfl, by decide +kernel, rfl, by decide +kernel, by decide +kernel⟩
theorem ok_rings {C : Addr} (T : Txt mg) (W : TWays K C) (D1 : DefOk P w K mg base "loose_pairs" ["program", "buffers"] 3 (SpD fLoose)) (M0 : MakeOk P w K mg base C "Ways" ["self", "program", "home", "late"] 6 (spWI C)) (M1 : MethOk P w K mg base C "ring_to" ["self", "early"] 3 (SpG (pRT C)))
    (h : Here K mg "rings_of" sRings ["program", "buffers"]) : DefOk P w K mg base "rings_of" ["program", "buffers"] 8 (SpG pRings) := h.ok fun F => by
  refine F.ok scRings (fun vs H Q E h => ?_) (fun cdv A outer s H vs Q E hr h => ?_)
  · obtain ⟨_, ⟨p, line, room, r, _⟩, _⟩ := h
    exact r.length
  · obtain ⟨_, ⟨p, line, room, r, ok, rfl⟩, k⟩ := h
    obtain ⟨v1, v2, rfl, r1, r2⟩ := r.inv2
    have nd := scRings.nd
    have hu := hu_of hr
    refine ⟨_, pss_cons (ps_par (by rfl) nd (i := 2) (j := 3) rfl rfl (by decide) rfl rfl (pa_cons pe_dnewT (pa_cons pe_dnewT pa_nil)) (by rfl))
      (pss_cons (ps_for PassesOwn.never rfl (pi_tup (pe_def D1 (hr.mono (by decide)) rfl (pa_cons (pv 0) (pa_cons (pv 1) pa_nil)) pass0)) (pg_name (i := 4) nd rfl (.inl rfl))
        (pss_cons (ps_asg (pv 4) (pg_tup (by rfl) (pgs_cons (pg_name (i := 5) nd rfl (.inl rfl)) (pgs_cons (pg_name (i := 6) nd rfl (.inl rfl)) (pgs_cons (pg_name (i := 7) nd rfl (.inl rfl)) pgs_nil)))))
        (pss_cut (ps_if (pt_cmp (pc_dnotin hu (pe_tup (pa_cons (pv 5) (pa_cons (pv 7) pa_nil))) (pv 3))) (pss_one (ps_dput hu (pv 3) (pe_tup (pa_cons (pv 5) (pa_cons (pv 7) pa_nil))) (pe_mk M0 hr rfl (pa_cons (pv 0) (pa_cons (pv 5) (pa_cons (pv 7) pa_nil))) pass0) rfl)) pss_nil)
        (pss_cons (ps_set (i := 8) nd rfl (Or.inl rfl) (pe_m M1 W.cl (hr.mono (by decide)) (pe_dget hu (pv 3) (pe_tup (pa_cons (pv 5) (pa_cons (pv 7) pa_nil))) (fun _ _ => rfl)) (pa_cons (pv 6) pa_nil) pass0))
        (pss_one (ps_if (pt_cmpR op_notN (pv 8) pe_non (by rfl)) (pss_one (ps_dput hu (pv 2) (pv 4) (pv 8) rfl)) pss_nil))))))
      (pss_one (ps_ret (pv 2)))), ?_⟩
    -- found, ways
    intro F0 hF0 W0 hW0
    refine ⟨_, _, rfl, ?_⟩
    have hne : F0 ≠ W0 := fun z => by rw [← z, upd_same] at hW0; cases hW0
    have hWH : H W0 = none := by rw [upd_ne hne.symm] at hW0; exact hW0
    generalize hH0 : upd (upd H F0 (.dT [])) W0 (.dT []) = H0
    have eH0 : Ex H H0 := by rw [← hH0]; exact (Ex.new hF0).trans (Ex.new hW0)
    have f0 : H0 F0 = some (.dT []) := by rw [← hH0, upd_ne hne]; exact upd_same
    have w0 : H0 W0 = some (.dT []) := by rw [← hH0]; exact upd_same
    have hL := loose_len (line := line) (room := room) ok
    refine q_forTD (evd_call (evds_cons (evd_var rfl (r1.ex eH0)) (evds1 (evd_var rfl (r2.ex eH0)))) ⟨p, line, room, rfl, ok, rfl⟩)
      (fun Hx i σ' H' => TK Hx H' ∧ Ex H H' ∧ (∃ kvs, H' F0 = some (.dT kvs) ∧ kvs.map (·.1) = (((loose p line room).take i).filter (liveB p line room)).map fun q => kI (triK q)) ∧ WKept C p F0 W0 H' ∧
        ∃ x4 x5 x6 x7 x8, σ' = [some v1, some v2, some (.ref F0), some (.ref W0), x4, x5, x6, x7, x8])
      (fun Hx ex => ⟨TK.refl _, eH0.trans ex, ⟨[], ex _ _ f0, rfl⟩, ⟨[], fun _ => none, ex _ _ w0, DF.nil, fun k x h => (by cases h)⟩, _, _, _, _, _, rfl⟩)
      (fun Hx i σ' H' ⟨a, _⟩ => a) (fun Hx i x d σ' H' ex hi hx ⟨tk, eb, ⟨kvF, hF, hkF⟩, wk, x4, x5, x6, x7, x8, es⟩ => ?_) (fun Hx σ' H' ex ⟨tk, eb, ⟨kvF, hF, hkF⟩, wk, x4, x5, x6, x7, x8, es⟩ => ?_)
    · subst es
      rw [List.getElem?_map] at hi
      obtain ⟨q, hq, rfl⟩ := Option.map_eq_some_iff.mp hi
      have hql := List.mem_of_getElem? hq
      obtain ⟨q1, q2, q3, q4, q5⟩ := loose_at hql
      have hfew := ok.few
      have hsh := ok.short _ (th_mem q1)
      refine q_tup3 (evd_var rfl hx) fun y1 y2 y3 H1 e1 s1 s2 s3 => ?_
      rw [s1.int_inv, s2.int_inv, s3.int_inv]
      have Hx1 : Td H1 x (triD q) := hx.ex e1
      have ekey : ∀ {H2 : Hp} {x4 x8 : Option V}, EvD (tTup (tCons (tVar 5) (tCons (tVar 7) tNil))) [some v1, some v2, some (.ref F0), some (.ref W0), x4, some (.int (q.1 : Nat)), some (.int (q.2.1 : Nat)), some (.int (q.2.2 : Nat)), x8] H2 (intsT [q.1, q.2.2]) := fun {_ _ _} => evd_tup (ds := [.int (q.1 : Nat), .int (q.2.2 : Nat)]) (evds_cons (evd_var rfl (.int _)) (evds1 (evd_var rfl (.int _)))) (by show 2 ≤ 100000; decide)
      obtain ⟨kvW, fW, hW, dfW, hfW⟩ := (wk.ext e1).ex
      have lenW : kvW.length < sizeLine := by
        refine Nat.lt_of_le_of_lt (dfW.few (fun k => match k with | [a, b] => a * 16 + b | _ => 0) 96 (fun k hk => ?_) (fun j k hj hk e => ?_)) (by decide)
        · cases e : fW k with
          | none => exact absurd e hk
          | some x =>
            obtain ⟨rfl, h1, h2⟩ := hfW k x e
            show x.1 * 16 + x.2 < 96
            omega
        · cases e1 : fW k with
          | none => exact absurd e1 hk
          | some x =>
            cases e2 : fW j with
            | none => exact absurd e2 hj
            | some y =>
              obtain ⟨rfl, h1, h2⟩ := hfW k x e1
              obtain ⟨rfl, h3, h4⟩ := hfW j y e2
              have e : y.1 * 16 + y.2 = x.1 * 16 + x.2 := e
              have a1 : y.1 = x.1 := by omega
              have a2 : y.2 = x.2 := by omega
              rw [a1, a2]
      have E1 : Ex H H1 := eb.trans e1
      have tk1 : TK Hx H1 := tk.trans (TK.ex e1)
      have hF1 := e1 _ _ hF
      -- behind the first if: the Ways is there
      refine q_cut (M := fun σ' H2 => σ' = [some v1, some v2, some (.ref F0), some (.ref W0), some x, some (.int (q.1 : Nat)), some (.int (q.2.1 : Nat)), some (.int (q.2.2 : Nat)), x8] ∧ TK H1 H2 ∧ Ex H H2 ∧ H2 F0 = some (.dT kvF) ∧ WKept C p F0 W0 H2 ∧
        ∃ kvs xa, H2 W0 = some (.dT kvs) ∧ valV kvs (kI [q.1, q.2.2]) = some (.ref xa) ∧ WaysBut C F0 W0 H2 xa p q.1 q.2.2) ?_ fun σ' H2 ⟨es, tk2, eb2, hF2, wk2, kv2, xa, hW2, hv2, wn⟩ => ?_
      · refine s_when (evt_B (evd_notinV ekey (ev_ref rfl) hW)) (fun hb H2 e2 => ?_) (fun hb H2 e2 => ?_)
        · have hval : valV kvW (kI [q.1, q.2.2]) = none := by
            cases e : valV kvW (kI [q.1, q.2.2]) with
            | none => rfl
            | some v => rw [e] at hb; cases hb
          have R1 : Td H2 v1 (progD p) := (r1.ex E1).ex e2
          refine s_dputV (R := fun v H3 => ∃ xa, v = .ref xa ∧ WaysBut C F0 W0 H3 xa p q.1 q.2.2) (evr_make (evds_cons (evd_var rfl R1) (evds_cons (evd_var rfl (.int _)) (evds1 (evd_var rfl (.int _))))) fun ws H3 xa dx e3 r nx ndx ne Q' kq => ?_) (ev_ref rfl) ekey (e2 _ _ hW) lenW
            fun v H3 H4 e3 ⟨xa, ev, wn⟩ e4 hW4 => ?_
          · obtain ⟨w1, w2, w3, rfl, t1, t2, t3⟩ := r.inv3
            have ee : Ex H3 (upd (upd H3 dx (.own xa)) xa (.ins C dx [])) := fun a o ha => by
              rw [upd_ne (ne_of_none ha nx), upd_ne (ne_of_none ha ndx)]; exact ha
            refine ⟨xa, dx, p, q.1, q.2.2, w1, w2, w3, rfl, upd_same, t1.ex ee, t2.ex ee, t3.ex ee, ok, q1, q3, q5, fun H' eb' wn => kq H' (fun a o ha => eb' a o (ee a o ha) (ne_of_none ha nx)) ⟨xa, rfl, ?_⟩⟩
            obtain ⟨d, f, z0, z1, z2, z3⟩ := wn.ex
            have hd3 := fresh_back ee z0
            refine ⟨d, f, fun z => ?_, fun z => ?_, z1, z2, z3⟩
            · rw [z, (e2.trans e3) _ _ hF1] at hd3; cases hd3
            · rw [z, (e2.trans e3) _ _ hW] at hd3; cases hd3
          · subst ev
            have e24 := (e2.trans e3).trans e4
            have wb : ∀ {xa th' l'}, WaysBut C F0 W0 H4 xa p th' l' → WaysBut C F0 W0 (upd H4 W0 (.dT (putK kvW (kI [q.1, q.2.2]) (.ref xa)))) xa p th' l' := fun h => h.exb (.inr rfl) hW4 ExB.upd
            refine ⟨rfl, (TK.ex e24).trans (TK.dT hW4), Ex.mut (E1.trans e24) hWH, ?_, ⟨_, setF fW [q.1, q.2.2] (q.1, q.2.2), upd_same, DF.put (dfW.imp fun v y ⟨xb, h1, h2⟩ => ⟨xb, h1, (h2.ext e24).exb (.inr rfl) hW4 ExB.upd⟩) ⟨xa, rfl, (wn.ext e4).exb (.inr rfl) hW4 ExB.upd⟩, fun k y hk => ?_⟩, ?_⟩
            · rw [upd_ne hne]; exact e24 _ _ hF1
            · unfold setF at hk
              split at hk
              · rename_i hkk
                cases hk
                exact ⟨hkk, by show q.1 < 6; omega, by show q.2.2 < 16; omega⟩
              · exact hfW k y hk
            · exact ⟨_, xa, upd_same, by rw [valV_put, if_pos rfl], (wn.ext e4).exb (.inr rfl) hW4 ExB.upd⟩
        · cases e : valV kvW (kI [q.1, q.2.2]) with
          | none => rw [e] at hb; cases hb
          | some v =>
            obtain ⟨y, hy, xa, rfl, wn⟩ := dfW.so _ _ e
            obtain ⟨hk, _, _⟩ := hfW _ y hy
            have a1 : q.1 = y.1 := (List.cons.inj hk).1
            have a2 : q.2.2 = y.2 := (List.cons.inj (List.cons.inj hk).2).1
            rw [← a1, ← a2] at wn
            exact ⟨rfl, TK.ex e2, E1.trans e2, e2 _ _ hF1, ⟨kvW, fW, e2 _ _ hW, dfW.imp fun v y ⟨xb, h1, h2⟩ => ⟨xb, h1, h2.ext e2⟩, hfW⟩, kvW, xa, e2 _ _ hW, e, wn.ext e2⟩
      · subst es
        -- ring
        have hsome := acc_of_store q4
        obtain ⟨dW, fWay, wo, _, _⟩ := wn.at.ex
        obtain ⟨dxa, vPa, hxa, _⟩ := wo.ex
        refine q_asgR (R := fun v H' => ∃ d, Td H' v d ∧ ∀ line room, isNone d = true ↔ ¬ Live p line room (q.1, q.2.1, q.2.2)) (evr_meth (C := C) (ev_dgetV (ev_ref rfl) ekey hW2 hv2) hxa rfl (evds1 (evd_var rfl (.int _))) fun ws H3 e3 r => by
          obtain ⟨w1, rfl, t1⟩ := r.inv1
          exact ⟨xa, p, q.1, q.2.2, q.2.1, w1, rfl, t1, wn.at.ext e3, ok, q1, Nat.lt_trans q2 q3, hsome, rfl⟩) fun vr H3 e3 ⟨dr, hdr, hlv⟩ => ?_
        have X3 : Td H3 x (triD q) := (Hx1.keep tk2).ex e3
        have hF3 := e3 _ _ hF2
        have kn : kI (triK q) ∉ kvF.map (·.1) := by
          rw [hkF]
          intro hm
          obtain ⟨q', hq', e⟩ := List.mem_map.mp hm
          have := triK_inj (kI_inj e)
          subst this
          obtain ⟨j, hj, hjq⟩ := List.getElem_of_mem (List.mem_filter.mp hq').1
          rw [List.getElem_take] at hjq
          rw [List.length_take] at hj
          have hil := (List.getElem?_eq_some_iff.mp hq)
          obtain ⟨hi1, hi2⟩ := hil
          have := (List.getElem_inj (h₀ := by omega) (h₁ := hi1) (nodup_loose (p := p) (line := line) (room := room))).mp (hjq.trans hi2.symm)
          omega
        have htake : ((loose p line room).take (i + 1)).filter (liveB p line room) = if liveB p line room q = true then ((loose p line room).take i).filter (liveB p line room) ++ [q] else ((loose p line room).take i).filter (liveB p line room) := by
          rw [List.take_add_one, hq, Option.toList_some, List.filter_append, List.filter_cons, List.filter_nil]
          split <;> simp
        have hlq : isNone dr = !liveB p line room q := by
          have h1 := hlv line room
          have h2 := liveB_iff (p := p) (line := line) (room := room) (q := q)
          cases e1 : isNone dr <;> cases e2 : liveB p line room q <;> simp_all
        have lenF : kvF.length < sizeLine := by
          have : (kvF.map (·.1)).length ≤ 2000 := by
            rw [hkF, List.length_map]
            exact Nat.le_trans (List.length_filter_le _ _) (Nat.le_trans (by rw [List.length_take]; exact Nat.min_le_right _ _) hL)
          rw [List.length_map] at this
          exact Nat.lt_of_le_of_lt this (by decide)
        refine s_when (b := liveB p line room q) (et_is (evt_B (evd_notN (evd_var rfl hdr))) (by rw [hlq, Bool.not_not])) (fun hb H4 e4 => ?_) (fun hb H4 e4 => ?_)
        · refine s_dputV (R := fun v H5 => True) (evr_var rfl fun _ _ => trivial) (ev_ref rfl) (evd_var (d := intsT (triK q)) rfl (X3.ex e4)) (e4 _ _ hF3) lenF fun v H5 H6 e5 _ e6 hF6 => ?_
          have e36 := ((e3.trans e4).trans e5).trans e6
          refine ⟨((tk1.trans tk2).trans (TK.ex e36)).trans (TK.dT hF6), Ex.mut (eb2.trans e36) hF0, ⟨_, upd_same, ?_⟩, ?_, _, _, _, _, _, rfl⟩
          · rw [putK_new _ (valV_out kn), List.map_append, hkF, htake, if_pos hb, List.map_append]
            rfl
          · obtain ⟨kvs, f, h1, h2, h3⟩ := (wk2.ext e36).ex
            exact ⟨kvs, f, by rw [upd_ne hne.symm]; exact h1, h2.imp fun v y ⟨xb, a, b⟩ => ⟨xb, a, b.exb (.inl rfl) hF6 ExB.upd⟩, h3⟩
        · have e34 := e3.trans e4
          refine ⟨(tk1.trans tk2).trans (TK.ex e34), eb2.trans e34, ⟨kvF, e34 _ _ hF2, ?_⟩, wk2.ext e34, _, _, _, _, _, rfl⟩
          rw [hkF, htake, if_neg (by rw [hb]; decide)]
    · subst es
      refine s_retR (R := fun v H' => v = .ref F0) (evr_var rfl fun _ _ => rfl) fun v H1 e1 ev => ?_
      subst ev
      refine k _ H1 (eb.trans e1) ⟨F0, kvF, rfl, e1 _ _ hF, ?_⟩
      rw [hkF, List.length_map, List.take_length, live_eq]
end
end RFW
end

section
set_option Elab.async false
set_option linter.all false
set_option maxRecDepth 100000
set_option maxHeartbeats 4000000
/-! pairs: live_pairs, least_room. -/
namespace RFW
open PySem L2 Evl RF
section
variable {K : PySem.W.Frag} {σ : L2.St} {H H' : Hp} {ta tb te : TE} {t u : TT}
theorem evld_tri {a b c : Nat} {ws : List Nat} {xs : List Tri} {f : Tri → Bool} {g : Tri → PyData} (h : EvD ta σ H (.tuple (xs.map triD))) (hz : xs.length ≤ 40000)
    (hw : ∀ x y z, wipe ((((wipe σ ws).set a (some x)).set b (some y)).set c (some z)) ws = wipe σ ws)
    (ht : ∀ (q : Tri) H1, Ex H H1 → q ∈ xs → EvT t ((((wipe σ ws).set a (some (.int (q.1 : Nat)))).set b (some (.int (q.2.1 : Nat)))).set c (some (.int (q.2.2 : Nat)))) H1 (f q))
    (he : ∀ (q : Tri) H1, Ex H H1 → q ∈ xs → f q = true → EvD te ((((wipe σ ws).set a (some (.int (q.1 : Nat)))).set b (some (.int (q.2.1 : Nat)))).set c (some (.int (q.2.2 : Nat)))) H1 (g q)) :
    EvLd (tLc (iTup K ta) (gTup K 3 (gCons (gName a) (gCons (gName b) (gCons (gName c) gNil)))) t te ws) σ H ((xs.filter f).map g) := fun H0 e0 Q q =>
  h H0 e0 _ fun v H1 e1 r1 => by
    obtain ⟨p, vs, rfl, hx, _, r⟩ := r1.tup_inv
    have hl := r.length
    rw [List.length_map] at hl
    refine ⟨p, rfl, ⟨vs, SqT.of hx⟩, fun D hD => ?_⟩
    let out' : Nat → List PyData := fun n => ((xs.take n).filter f).map g
    have hlen : ∀ n, (out' n).length ≤ xs.length := fun n => by
      show (List.map _ _).length ≤ _
      rw [List.length_map]
      refine Nat.le_trans (List.length_filter_le _ _) ?_
      rw [List.length_take]
      exact Nat.min_le_right _ _
    refine lc_tup (xs := vs) (CwD H1 out' D) ⟨hD, Ex.new hD, [], upd_same, TdAll.nil⟩ (fun i H' _ p => SqT.of (p.2.1 _ _ hx)) (fun i x H' hi p => ?_) fun H' p => ?_
    · obtain ⟨d, hd, hxd⟩ := r.get' hi
      rw [List.getElem?_map] at hd
      obtain ⟨y, hy, rfl⟩ := Option.map_eq_some_iff.mp hd
      have hym := List.mem_of_getElem? hy
      obtain ⟨aa, zs, rfl, hz1, _, rz⟩ := (hxd.ex p.2.1).tup_inv
      obtain ⟨y1, y2, y3, rfl, z1, z2, z3⟩ := rz.inv3
      have w1 := z1.int_inv
      have w2 := z2.int_inv
      have w3 := z3.int_inv
      subst w1 w2 w3
      refine ⟨aa, _, rfl, SqT.of hz1, rfl, _, _, rfl, _, _, rfl, _, _, rfl, rfl, hw _ _ _, ?_⟩
      refine cwd_turn (b := f y) (d := g y) p (Nat.lt_of_le_of_lt (hlen i) (by omega)) (ht y H1 (e0.trans e1) hym) (fun hf => he y H1 (e0.trans e1) hym hf) ?_
      show ((xs.take (i + 1)).filter f).map g = _
      rw [List.take_add_one, hy, Option.toList_some, List.filter_append, List.map_append, List.filter_cons, List.filter_nil]
      split <;> simp_all [out']
    · obtain ⟨p1, p2, acc, p3, p4⟩ := p
      have e : out' vs.length = (xs.filter f).map g := by
        show ((xs.take vs.length).filter f).map g = _
        rw [List.take_of_length_le (by omega)]
      rw [e] at p4
      refine q D acc H' (fresh_back e1 p1) (e1.trans p2) p3 ?_ p4
      rw [p4.length, ← e]
      exact Nat.le_trans (hlen _) (by omega)
end
theorem keys_tri {H : Hp} {kvs : List (List Key × V)} {bs : List Addr} (h : IsKeys H kvs bs) : ∀ {qs : List Tri}, kvs.map (·.1) = qs.map (fun q => kI (triK q)) → TdAll H (bs.map V.ref) (qs.map triD) := by
  unfold IsKeys at h
  induction h with
  | nil =>
    intro qs e
    cases qs with
    | nil => exact .nil
    | cons q r => cases e
  | cons r _ ih =>
    intro qs e
    cases qs with
    | nil => cases e
    | cons q rs =>
      have e1 : _ = kI (triK q) := (List.cons.inj e).1
      dsimp only at e1
      have e2 := (List.cons.inj e).2
      rw [e1] at r
      have := td_key r (by show 3 ≤ 100000; decide)
      rw [keysD_kI] at this
      exact .cons this (ih e2)
theorem live_len {p : P'} {line : Bool} {room : Nat} (h : ProgOk p) : (live p line room).length ≤ 2000 := Nat.le_trans (List.length_filter_le _ _) (loose_len h)
theorem live_loose {p : P'} {line : Bool} {room : Nat} {q : Tri} (h : q ∈ live p line room) : q ∈ loose p line room := (List.mem_filter.mp h).1
/-- the least of numbers -/
theorem foldl_min_le : ∀ (l : List Nat) (a : Nat), l.foldl min a ≤ a ∧ ∀ x ∈ l, l.foldl min a ≤ x
  | [], a => ⟨Nat.le_refl _, fun _ h => (by cases h)⟩
  | y :: r, a => by
    obtain ⟨h1, h2⟩ := foldl_min_le r (min a y)
    refine ⟨Nat.le_trans h1 (Nat.min_le_left _ _), fun x hx => ?_⟩
    rcases List.mem_cons.mp hx with rfl | hx
    · exact Nat.le_trans h1 (Nat.min_le_right _ _)
    · exact h2 x hx
theorem foldl_min_mem : ∀ (l : List Nat) (a : Nat), l.foldl min a = a ∨ l.foldl min a ∈ l
  | [], a => .inl rfl
  | y :: r, a => by
    show r.foldl min (min a y) = a ∨ r.foldl min (min a y) ∈ y :: r
    rcases foldl_min_mem r (min a y) with h | h
    · rw [h]
      by_cases hay : a ≤ y
      · rw [Nat.min_eq_left hay]; exact .inl rfl
      · rw [Nat.min_eq_right (by omega)]; exact .inr List.mem_cons_self
    · exact .inr (List.mem_cons_of_mem _ h)
theorem minO_is {l : List Nat} {m : Nat} (h : m ∈ l) (hl : ∀ x ∈ l, m ≤ x) : minO l = some m := by
  cases l with
  | nil => cases h
  | cons x r =>
    show some (r.foldl min x) = some m
    obtain ⟨h1, h2⟩ := foldl_min_le r x
    have h3 : r.foldl min x ≤ m := by
      rcases List.mem_cons.mp h with rfl | h
      · exact h1
      · exact h2 m h
    have h4 : m ≤ r.foldl min x := by
      rcases foldl_min_mem r x with h | h
      · rw [h]; exact hl x List.mem_cons_self
      · exact hl _ (List.mem_cons_of_mem _ h)
    congr 1
    omega
section
variable {K : PySem.W.Frag} {σ : L2.St} {H H' : Hp} {te : TE}
/-- min(l, default=None), l a list of numbers -/
theorem evd_minN {ns : List Nat} (h : EvR te σ H (Ld (ns.map fun n : Nat => PyData.int (n : Int)))) : EvD (tCKw rMinD (tCons te tNil) (tCons (tC .non) tNil)) σ H (optD (minO ns)) := fun H1 e Q q => h H1 e _ fun v H2 e2 ⟨p, vs, ev, hp, _, r⟩ => by
  subst ev
  refine ⟨p, vs, _, .non, rfl, rfl, hp, r, fun a ha b hb => ?_, fun a ha => ?_, fun hn => ?_, fun i v d hv hd td hf => ?_⟩
  · obtain ⟨x, _, rfl⟩ := List.mem_map.mp ha
    obtain ⟨y, _, rfl⟩ := List.mem_map.mp hb
    rfl
  · obtain ⟨x, _, rfl⟩ := List.mem_map.mp ha
    exact ⟨fun z => (by cases z), by show 0 ≤ 32; decide⟩
  · have : ns = [] := List.map_eq_nil_iff.mp hn
    subst this
    exact q _ H2 e2 .non
  · rw [List.getElem?_map] at hd
    obtain ⟨x, hx, rfl⟩ := Option.map_eq_some_iff.mp hd
    have hm : ∀ e ∈ ns, x ≤ e := fun e he => by
      have := hf (fun d => match d with | .int i => i | _ => 0) (fun a b ha hb hlt => ?_) (fun a b ha hb hlt => ?_) (.int (e : Int)) (List.mem_map.mpr ⟨e, he, rfl⟩)
      · exact Int.ofNat_le.mp this
      · obtain ⟨y, _, rfl⟩ := List.mem_map.mp ha
        obtain ⟨z, _, rfl⟩ := List.mem_map.mp hb
        rw [PySem.W.dataLt_int] at hlt
        exact Int.le_of_lt (of_decide_eq_true hlt)
      · obtain ⟨y, _, rfl⟩ := List.mem_map.mp ha
        obtain ⟨z, _, rfl⟩ := List.mem_map.mp hb
        rw [PySem.W.dataLt_int] at hlt
        exact Int.not_lt.mp (of_decide_eq_false hlt)
    rw [minO_is (List.mem_of_getElem? hx) hm] at q
    exact q v H2 e2 td
end
abbrev sRoom : Stmt := top 22
section
variable {P : Program} {w : World} {K : PySem.W.Frag} {mg : Str → Option Value} {base : Heap}
def fLive : List PyData → PyData → Prop := fun ds d => ∃ (p : P') (line : Bool) (room : Nat), ds = [progD p, boxD line room] ∧ ProgOk p ∧ d = .tuple ((live p line room).map triD)
theorem scLive : FnScope ["program", "buffers"] ["program", "buffers"] (defScope sLive) := ⟨rfl, rfl, rfl, by decide +kernel, rfl, by decide +kernel, by decide +kernel⟩
theorem ok_live (T : Txt mg) (D1 : DefOk P w K mg base "rings_of" ["program", "buffers"] 8 (SpG pRings)) (h : Here K mg "live_pairs" sLive ["program", "buffers"]) : DefOk P w K mg base "live_pairs" ["program", "buffers"] 9 (SpD fLive) := h.ok fun F => by
  refine F.ok scLive (fun vs H Q E h => ?_) (fun cdv A outer s H vs Q E hr h => ?_)
  · obtain ⟨_, ⟨ds, d, r, ⟨p, line, room, rfl, _⟩, _⟩, _⟩ := h
    exact r.length
  · obtain ⟨_, ⟨ds, d, r, ⟨p, line, room, rfl, ok, rfl⟩, rfl⟩, k⟩ := h
    obtain ⟨v1, v2, rfl, r1, r2⟩ := r.inv2
    refine ⟨_, pss_one (ps_ret (pe_callTy (cr_tuple_dT rfl) (by rfl) T.tuple PyProof.Rows.boot_tuple (pa_cons (pe_def D1 hr rfl (pa_cons (pv 0) (pa_cons (pv 1) pa_nil)) pass0) pa_nil))), ?_⟩
    refine s_retR (R := Dt (.tuple ((live p line room).map triD))) (fun H1 e1 Q q => ?_) k
    refine evr_call (evds_cons (evd_var rfl r1) (evds1 (evd_var rfl r2))) (fun vs H2 _ r => ⟨p, line, room, r, ok, rfl⟩) H1 e1 _ fun v H2 e2 ⟨d, kvs, ev, hd, hk⟩ => ?_
    subst ev
    refine ⟨d, kvs, rfl, .inl hd, fun l bs hl ik => q _ _ (e2.trans (Ex.new hl)) (.tup upd_same ?_ ?_)⟩
    · rw [(keys_tri ik hk).length, List.length_map]
      exact Nat.le_trans (live_len ok) (by decide)
    · exact (keys_tri ik hk).ex (Ex.new hl)
def fRoom : List PyData → PyData → Prop := fun ds d => ∃ (p : P') (line : Bool), ds = [progD p, .str (wordS line)] ∧ ProgOk p ∧ d = optD (leastRoom p line)
theorem scRoom : FnScope ["program", "word", "pairs", "rooms", "thread", "early", "late"] ["program", "word"] (defScope sRoom) := ⟨rfl, rfl, rfl, by decide +kernel, rfl, by decide +kernel, by decide +kernel⟩
theorem ok_room (T : Txt mg) (D1 : DefOk P w K mg base "live_pairs" ["program", "buffers"] 9 (SpD fLive)) (D2 : DefOk P w K mg base "queued" ["instructions", "word", "early", "late"] 1 (SpD fQueued))
    (h : Here K mg "least_room" sRoom ["program", "word"]) : DefOk P w K mg base "least_room" ["program", "word"] 10 (SpD fRoom) := h.ok fun F => by
  refine F.ok scRoom (fun vs H Q E h => ?_) (fun cdv A outer s H vs Q E hr h => ?_)
  · obtain ⟨_, ⟨ds, d, r, ⟨p, line, rfl, _⟩, _⟩, _⟩ := h
    exact r.length
  · obtain ⟨_, ⟨ds, d, r, ⟨p, line, rfl, ok, rfl⟩, rfl⟩, k⟩ := h
    obtain ⟨v1, v2, rfl, r1, r2⟩ := r.inv2
    have nd := scRoom.nd
    have hu2 := hu65 hr
    refine ⟨_, pss_cons (ps_set (i := 2) nd rfl (Or.inl rfl) (pe_def D1 hr rfl (pa_cons (pv 0) (pa_cons (pe_tup (pa_cons (pv 1) (pa_cons (pe_gi T.ROOM) pa_nil))) pa_nil)) pass0))
      (pss_cons (ps_setLc (own := [("thread", 4), ("early", 5), ("late", 6)]) (g := gTup K 3 (gCons (gName 4) (gCons (gName 5) (gCons (gName 6) gNil)))) (tt := tYes) (i := 3) rfl nd rfl rfl (sw_true rfl rfl rfl (by decide +kernel)) (pi_tup (pv 2)) (blkOk_by (N := ["program", "word", "pairs", "rooms", "thread", "early", "late"]) (sc := defScope sRoom) (by decide +kernel))
        (fun _ _ _ _ _ => pg_tup (by rfl) (pgs_cons (pg_name (i := 4) nd rfl (Or.inl rfl)) (pgs_cons (pg_name (i := 5) nd rfl (Or.inl rfl)) (pgs_cons (pg_name (i := 6) nd rfl (Or.inl rfl)) pgs_nil)))) (fun _ _ _ _ _ => pts_nil) (fun _ _ _ _ _ => pe_def D2 (hr.mono (by decide)) rfl (pa_cons (pe_ix (ixT K) (pv 0) (pv 4) (fun _ _ => rfl)) (pa_cons (pv 1) (pa_cons (pv 5) (pa_cons (pv 6) pa_nil)))) pass0))
      (pss_one (ps_ret (pe_minD rfl (Nat.lt_of_le_of_lt (Nat.add_le_add_left (by decide) _) hu2) (by rfl) T.min (pa_cons (pv 3) pa_nil) (pk_cons pe_non pk_nil))))), ?_⟩
    refine q_asgR (evd_call (evds_cons (evd_var rfl r1) (evds1 (evd_tup (ds := [.str (wordS line), .int (16 : Nat)]) (evds_cons (evd_var rfl r2) (evds1 evd_int)) (by show 2 ≤ 100000; decide)))) ⟨p, line, 16, rfl, ok, rfl⟩) fun vp H1 e1 rp => ?_
    have hlive := live_len (line := line) (room := 16) ok
    refine q_asgR (evld_tri (xs := live p line 16) (f := fun _ => true) (g := fun q => .int (queued (th p q.1) line q.2.1 q.2.2 : Nat)) (evd_var rfl rp) (by omega) (fun x y z => rfl) (fun q H2 e2 hq => evt_yes) (fun q H2 e2 hq _ => ?_)).ld fun vr H2 e2 rr => ?_
    · obtain ⟨q1, q2, q3, q4, q5⟩ := loose_at (live_loose hq)
      exact evd_call (evds_cons (evd_ix (evd_var rfl ((r1.ex e1).ex e2)) (evd_var rfl (.int _)) (prog_at q1)) (evds_cons (evd_var rfl ((r2.ex e1).ex e2)) (evds_cons (evd_var rfl (.int _)) (evds1 (evd_var rfl (.int _)))))) ⟨th p q.1, line, q.2.1, q.2.2, rfl, ok.short _ (th_mem q1), Nat.lt_trans q2 q3, Nat.le_of_lt q3, q4, rfl⟩
    · have e : ((live p line 16).filter fun _ => true).map (fun q => PyData.int (queued (th p q.1) line q.2.1 q.2.2 : Nat)) = (rooms p line).map fun n : Nat => PyData.int (n : Int) := by
        rw [filter_yes]
        unfold rooms
        rw [List.map_map]
        rfl
      rw [e] at rr
      refine s_retR (evd_minN (evr_var rfl fun H3 e3 => rr.ex e3)) fun v H3 e3 r => k v H3 ((e1.trans e2).trans e3) r
end
end RFW
end

section
set_option Elab.async false
set_option linter.all false
set_option maxRecDepth 100000
set_option maxHeartbeats 4000000
/-! tearing: Trip's flush, queue_of. -/
namespace RFW
open PySem L2 Evl RF
abbrev sTrip : Stmt := top 24
abbrev sTI : Stmt := inClass sTrip 0
abbrev sTQ : Stmt := inClass sTrip 1
abbrev sTF : Stmt := inClass sTrip 2
abbrev sTM : Stmt := inClass sTrip 3
abbrev sTS : Stmt := inClass sTrip 4
theorem pfK {X : Cx} {e : Expr} {f : Str} {pos : Pos} {ta : TE} (K : PySem.W.Frag) (he : PE X e ta) (hK : X.K = K := by rfl) (hb : attributeBase e f X.env (eval e X.env) = eval e X.env := by rfl) : PE X (.Attribute e f pos) (tFld K ta f) := by
  subst hK; exact pe_fld he hb
/-- all but a and b stands -/
def ExT (a b : Addr) (H H' : Hp) : Prop := ∀ c o, H c = some o → c ≠ a → c ≠ b → H' c = some o
theorem ExT.refl (a b : Addr) (H : Hp) : ExT a b H H := fun _ _ h _ _ => h
theorem ExT.of {a b : Addr} {H H' : Hp} (e : Ex H H') : ExT a b H H' := fun c o h _ _ => e c o h
theorem ExT.trans {a b : Addr} {H H1 H2 : Hp} (e : ExT a b H H1) (f : ExT a b H1 H2) : ExT a b H H2 := fun c o h n m => f c o (e c o h n m) n m
theorem ExT.upd1 {a b : Addr} {H : Hp} {o : HO} : ExT a b H (upd H a o) := fun c u h n _ => by rw [upd_ne n]; exact h
theorem ExT.upd2 {a b : Addr} {H : Hp} {o : HO} : ExT a b H (upd H b o) := fun c u h _ n => by rw [upd_ne n]; exact h
theorem ExT.tk {a b : Addr} {H H' : Hp} {xs ys : List V} (e : ExT a b H H') (h1 : H a = some (.lst xs)) (h2 : H b = some (.lst ys)) : TK H H' := fun c zs hc => e c _ hc (fun z => by rw [z, h1] at hc; cases hc) (fun z => by rw [z, h2] at hc; cases hc)
structure TTrip (K : PySem.W.Frag) (C : Addr) : Prop where
  cl : Cls K C
  nI : NoAttr K C "instructions"
  nWo : NoAttr K C "word"
  nR : NoAttr K C "room"
  nT : NoAttr K C "thread"
  nW : NoAttr K C "waiting"
  nM : NoAttr K C "made"
def tFs (vI : V) (line : Bool) (room thr : Nat) (lw lm : Addr) : List (Str × V) := [("instructions", vI), ("word", .str (wordS line)), ("room", .int (room : Int)), ("thread", .int (thr : Int)), ("waiting", .ref lw), ("made", .ref lm)]
abbrev natsV (ws : List Nat) : List V := ws.map fun n : Nat => V.int (n : Int)
structure TO (C : Addr) (H : Hp) (x lw lm : Addr) (t : T') (line : Bool) (room thr : Nat) (ws : List Nat) (n : Nat) : Prop where
  ob : ∃ dx vI, H x = some (.ins C dx (tFs vI line room thr lw lm)) ∧ Td H vI (thD t)
  wa : H lw = some (.lst (natsV ws))
  ma : ∃ ms, H lm = some (.lst ms) ∧ ms.length = n
  ne : lw ≠ lm
  sz : n + ws.length ≤ 100
  sh : t.length ≤ 16
  st : ∀ one ∈ ws, one < t.length ∧ (t.getD one .fence).isStore = true
section
variable {C : Addr} {H H' : Hp} {x lw lm : Addr} {t : T'} {line : Bool} {room thr : Nat} {ws ws' : List Nat} {n n' : Nat}
theorem TO.ext (h : TO C H x lw lm t line room thr ws n) (e : Ex H H') : TO C H' x lw lm t line room thr ws n := by
  obtain ⟨dx, vI, h1, h2⟩ := h.ob
  obtain ⟨ms, h3, h4⟩ := h.ma
  exact ⟨⟨dx, vI, e _ _ h1, h2.ex e⟩, e _ _ h.wa, ⟨ms, e _ _ h3, h4⟩, h.ne, h.sz, h.sh, h.st⟩
theorem TO.tk (h : TO C H x lw lm t line room thr ws n) (e : ExT lw lm H H') : TK H H' := by
  obtain ⟨ms, h3, h4⟩ := h.ma
  exact e.tk h.wa h3
theorem natsV_td (H : Hp) (ws : List Nat) : TdAll H (natsV ws) (natsD ws) := by
  have := TdAll.ints (H := H) (ws.map fun n : Nat => (n : Int))
  rw [List.map_map, List.map_map] at this
  exact this
theorem TO.ld (h : TO C H x lw lm t line room thr ws n) : Ld (natsD ws) (.ref lw) H := ⟨lw, _, rfl, h.wa, by rw [List.length_map]; have := h.sz; omega, natsV_td H ws⟩
end
section
variable {K : PySem.W.Frag} {σ : L2.St} {H : Hp} {ta te : TE} {D : Ends} {tz : TS} {l : Addr} {xs : List V} {R : Rel}
theorem s_appR (hl : H l = some (.lst xs)) (ha : Ev ta σ H (.ref l)) (h : EvR te σ H R) (hz : xs.length < 100000) (k : ∀ v H1, Ex H H1 → R v H1 → H1 l = some (.lst xs) → D.nx σ (upd H1 l (.lst (xs ++ [v])))) : tDrop (tBM K "list" rAppend ta (tCons te tNil)) D σ H :=
  ha H (Ex.refl H) _ fun H1 e1 => ⟨Or.inl ⟨rfl, xs, sq_of (e1 l _ hl)⟩, h H1 e1 _ fun v H2 e2 r => ⟨l, xs, v, rfl, rfl, e2 l _ (e1 l _ hl), sz_lt hz, k v H2 (e1.trans e2) r (e2 l _ (e1 l _ hl))⟩⟩
theorem q_appR (hl : H l = some (.lst xs)) (ha : Ev ta σ H (.ref l)) (h : EvR te σ H R) (hz : xs.length < 100000) (k : ∀ v H1, Ex H H1 → R v H1 → H1 l = some (.lst xs) → tz D σ (upd H1 l (.lst (xs ++ [v])))) : tSeq (tDrop (tBM K "list" rAppend ta (tCons te tNil))) tz D σ H := s_appR (D := { D with nx := tz D }) hl ha h hz k
theorem erase_at (a : Nat) : ∀ {ws : List Nat}, a ∈ ws → ∃ j, ws[j]? = some a ∧ (∀ m : Nat, m < j → ws[m]? ≠ some a) ∧ ws.eraseIdx j = ws.erase a
  | [], h => by cases h
  | b :: r, h => by
    by_cases e : b = a
    · subst e
      exact ⟨0, rfl, fun m hm => absurd hm (Nat.not_lt_zero _), by simp⟩
    · obtain ⟨j, h1, h2, h3⟩ := erase_at a ((List.mem_cons.mp h).resolve_left fun z => e z.symm)
      refine ⟨j + 1, by simpa using h1, fun m hm => ?_, ?_⟩
      · cases m with
        | zero => simp [e]
        | succ m => simpa using h2 m (by omega)
      · rw [List.eraseIdx_cons_succ, List.erase_cons_tail (by simpa using e), h3]
theorem eraseIdx_map' {α β : Type} (f : α → β) : ∀ (l : List α) (j : Nat), (l.map f).eraseIdx j = (l.eraseIdx j).map f
  | [], _ => rfl
  | _ :: _, 0 => rfl
  | x :: r, j + 1 => by
    show f x :: (r.map f).eraseIdx j = f x :: (r.eraseIdx j).map f
    rw [eraseIdx_map' f r j]
/-- l.remove(a) -/
theorem q_remove {ws : List Nat} {a : Nat} (hl : H l = some (.lst (natsV ws))) (ha : Ev ta σ H (.ref l)) (h : EvD te σ H (.int (a : Int))) (hm : a ∈ ws) (k : ∀ H1, Ex H H1 → H1 l = some (.lst (natsV ws)) → tz D σ (upd H1 l (.lst (natsV (ws.erase a))))) :
    tSeq (tDrop (tBM K "list" rRemI ta (tCons te tNil))) tz D σ H :=
  ha H (Ex.refl H) _ fun H1 e1 => ⟨Or.inl ⟨rfl, _, sq_of (e1 l _ hl)⟩, h H1 e1 _ fun v H2 e2 r => by
    obtain ⟨j, h1, h2, h3⟩ := erase_at a hm
    have ew : ∀ ws : List Nat, natsV ws = (ws.map fun n : Nat => (n : Int)).map V.int := fun ws => by rw [List.map_map]; rfl
    have hl2 := e2 l _ (e1 l _ hl)
    have hk := k H2 (e1.trans e2) hl2
    rw [ew] at hl2
    rw [← h3, ew, ← eraseIdx_map'] at hk
    refine ⟨l, _, (a : Int), j, rfl, by rw [r.int_inv], hl2, by rw [List.getElem?_map, h1]; rfl, fun m hm z => ?_, hk⟩
    rw [List.getElem?_map] at z
    obtain ⟨y, hy, ey⟩ := Option.map_eq_some_iff.mp z
    exact h2 m hm (by rw [hy, Int.ofNat.inj ey])⟩
end
section
variable {P : Program} {w : World} {K : PySem.W.Frag} {mg : Str → Option Value} {base : Heap}
/-- self, at -/
def spTF (C : Addr) : Sp := fun vs H Q _ => ∃ (x lw lm : Addr) (t : T') (line : Bool) (room thr : Nat) (ws : List Nat) (n a : Nat) (v1 : V), vs = [.ref x, v1] ∧ Td H v1 (.int (a : Int)) ∧ TO C H x lw lm t line room thr ws n ∧ a ∈ ws ∧
  ∀ H', ExT lw lm H H' → TO C H' x lw lm t line room thr (ws.erase a) (n + 1) → Q .non H'
theorem scTF : FnScope ["self", "at"] ["self", "at"] (defScope sTF) := ⟨rfl, rfl, rfl, by decide +kernel, rfl, by decide +kernel, by decide +kernel⟩
theorem ok_tf {C : Addr} (T : Txt mg) (W : TTrip K C) (h : HereM K C "flush" "Trip.flush" sTF ["self", "at"]) : MethOk P w K mg base C "flush" ["self", "at"] 1 (spTF C) := h.ok fun F => by
  refine F.ok scTF (fun vs H Q E h => ?_) (fun cdv A outer s H vs Q E hr h => ?_)
  · obtain ⟨x, lw, lm, t, line, room, thr, ws, n, a, v1, rfl, _⟩ := h
    rfl
  · obtain ⟨x, lw, lm, t, line, room, thr, ws, n, a, v1, rfl, r1, o, ha, k⟩ := h
    refine ⟨_, pss_cons (ps_expr (pe_bm PySem.F.plainAttrs_list PySem.F.slot_list_remove PySem.F.type_list_remove mt_remove (pfK K (pv 0)) (pa_cons (pv 1) pa_nil)))
      (pss_one (ps_expr (pe_bm PySem.F.plainAttrs_list PySem.F.slot_list_append PySem.F.type_list_append mt_append (pfK K (pv 0)) (pa_cons (pe_tup (pa_cons pe_str (pa_cons (pfK K (pv 0)) (pa_cons (pe_ix (ixT K) (pe_ix (ixT K) (pfK K (pv 0)) (pv 1) (fun _ _ => rfl)) pe_int (fun _ _ => rfl)) pa_nil)))) pa_nil)))), ?_⟩
    obtain ⟨dx, vI, hx, rI⟩ := o.ob
    obtain ⟨ms, hm, hml⟩ := o.ma
    obtain ⟨hat, hst⟩ := o.st a ha
    obtain ⟨y, hy⟩ := var_acc (acc_of_store hst)
    have hsz := o.sz
    have hxw : x ≠ lw := ne_of hx o.wa (by intro z; cases z)
    have hxm : x ≠ lm := ne_of hx hm (by intro z; cases z)
    refine q_remove o.wa (ev_fld (ev_ref rfl) hx W.cl W.nW rfl) (evd_var rfl r1) ha fun H1 e1 hw1 => ?_
    have tk1 : TK H (upd H1 lw (.lst (natsV (ws.erase a)))) := (TK.ex e1).trans (TK.lst hw1)
    have hx1 : upd H1 lw (.lst (natsV (ws.erase a))) x = some (.ins C dx (tFs vI line room thr lw lm)) := by rw [upd_ne hxw]; exact e1 _ _ hx
    have hm1 : upd H1 lw (.lst (natsV (ws.erase a))) lm = some (.lst ms) := by rw [upd_ne o.ne.symm]; exact e1 _ _ hm
    refine s_appR hm1 (ev_fld (ev_ref rfl) hx1 W.cl W.nM rfl) (evd_tup (ds := [.str "flush", .int (thr : Nat), .str y]) (evds_cons evd_str (evds_cons (evd_fld (ev_ref rfl) hx1 W.cl W.nT rfl (.int _)) (evds1 (evd_ix (evd_ix (evd_fld (ev_ref rfl) hx1 W.cl W.nI rfl (rI.keep tk1)) (evd_var rfl (r1.keep tk1)) (th_at hat)) evd_int (insL_1 hy))))) (by show 3 ≤ 100000; decide)) (by omega) fun v H2 e2 _ hm2 => ?_
    have tk2 : TK H (upd H2 lm (.lst (ms ++ [v]))) := (tk1.trans (TK.ex e2)).trans (TK.lst hm2)
    have hlen : (ws.erase a).length + 1 = ws.length := by
      have := List.length_erase_of_mem ha
      have h2 := List.length_pos_of_mem ha
      omega
    refine k _ (((ExT.of e1).trans ExT.upd1).trans ((ExT.of e2).trans ExT.upd2)) ⟨⟨dx, vI, ?_, rI.keep tk2⟩, ?_, ⟨_, upd_same, by rw [List.length_append, List.length_singleton, hml]⟩, o.ne, by omega, o.sh, fun one h1 => o.st one (List.mem_of_mem_erase h1)⟩
    · rw [upd_ne hxm]; exact e2 _ _ hx1
    · rw [upd_ne o.ne]; exact e2 _ _ upd_same
/-- self, at -/
def pTQ (C : Addr) (vs : List V) (H : Hp) (R : Rel) : Prop := ∃ (x lw lm : Addr) (t : T') (line : Bool) (room thr : Nat) (ws : List Nat) (n a : Nat) (v1 : V), vs = [.ref x, v1] ∧ Td H v1 (.int (a : Int)) ∧ TO C H x lw lm t line room thr ws n ∧ a < t.length ∧ (t.getD a .fence).isAcc = true ∧
  R = fun v H' => Ld (natsD (queueOf (fun i => t.getD i .fence) line ws a)) v H' ∧ ∃ l, v = .ref l ∧ H l = none
theorem scTQ : FnScope ["self", "at", "variable", "one"] ["self", "at"] (defScope sTQ) := ⟨rfl, rfl, rfl, by decide +kernel, rfl, by decide +kernel, by decide +kernel⟩
theorem ok_tq {C : Addr} (T : Txt mg) (W : TTrip K C) (h : HereM K C "queue_of" "Trip.queue_of" sTQ ["self", "at"]) : MethOk P w K mg base C "queue_of" ["self", "at"] 1 (SpG (pTQ C)) := h.ok fun F => by
  refine F.ok scTQ (fun vs H Q E h => ?_) (fun cdv A outer s H vs Q E hr h => ?_)
  · obtain ⟨_, ⟨x, lw, lm, t, line, room, thr, ws, n, a, v1, rfl, _⟩, _⟩ := h
    rfl
  · obtain ⟨_, ⟨x, lw, lm, t, line, room, thr, ws, n, a, v1, rfl, r1, o, hat, hac, rfl⟩, k⟩ := h
    have nd := scTQ.nd
    refine ⟨_, pss_cons (ps_set (i := 2) nd rfl (Or.inr rfl) (pe_ix (ixT K) (pe_ix (ixT K) (pfK K (pv 0)) (pv 1) (fun _ _ => rfl)) pe_int (fun _ _ => rfl)))
      (pss_one (ps_ret (pe_lc (own := [("one", 3)]) (g := gName 3) rfl nd (pi_list (pfK K (pv 0))) (blkOk_by (N := ["self", "at", "variable", "one"]) (sc := defScope sTQ) (by decide +kernel))
        (fun _ _ _ _ _ => pg_name (i := 3) nd rfl (Or.inl rfl)) (fun _ _ _ _ _ => pts_one (PW.pt (pw_or (pt_cmpR op_eq (pfK K (pv 0)) (pe_gs T.LINE) (nomark _)) (pw_or1 (pt_cmpR op_eq (pe_ix (ixT K) (pe_ix (ixT K) (pfK K (pv 0)) (pv 3) (fun _ _ => rfl)) pe_int (fun _ _ => rfl)) (pv 2) (nomark _)))))) (fun _ _ _ _ _ => pv 3)))), ?_⟩
    obtain ⟨dx, vI, hx, rI⟩ := o.ob
    obtain ⟨y, hy⟩ := var_acc hac
    refine q_asgR (evd_ix (evd_ix (evd_fld (ev_ref rfl) hx W.cl W.nI rfl rI) (evd_var rfl r1) (th_at hat)) evd_int (insL_1 hy)) fun vy H1 e1 ry => ?_
    have o1 := o.ext e1
    have hx1 := e1 _ _ hx
    have hsz := o.sz
    have key : EvLd (tLc (iList K (tFld K (tVar 0) "waiting")) (gName 3) (tOr (tTest (tOp rEq (tFld K (tVar 0) "word") (tC (.str "line")))) (tTest (tOp rEq (tOp (rIxT K) (tOp (rIxT K) (tFld K (tVar 0) "instructions") (tVar 3)) (tC (.int 1))) (tVar 2)))) (tVar 3) [3])
        [some (.ref x), some v1, some vy, none] H1 (natsD (queueOf (fun i => t.getD i .fence) line ws a)) := by
      refine evld_mL (D := fun n : Nat => PyData.int (n : Int)) (c := fun n : Nat => PyData.int (n : Int)) (f := fun one => line || decide (((fun i => t.getD i .fence) one).var? = ((fun i => t.getD i .fence) a).var?)) (evr_ev (ev_fld (ev_ref rfl) hx1 W.cl W.nW rfl) fun H2 e2 => o1.ld.ex e2) (by omega) (fun x => rfl)
        (fun v one H2 e2 hd hv => ?_) (fun v one H2 e2 hd hv _ => evd_var rfl hv)
      obtain ⟨h1, h2⟩ := o.st one hd
      obtain ⟨z, hz⟩ := var_acc (acc_of_store h2)
      have hx2 := e2 _ _ hx1
      refine et_or (et_is (evt_B (evd_eqS (evd_fld (ev_ref rfl) hx2 W.cl W.nWo rfl (.str _)) evd_str)) (line_w line)) fun _ => ?_
      exact et_is (evt_B (evd_eqS (evd_ix (evd_ix (evd_fld (ev_ref rfl) hx2 W.cl W.nI rfl (rI.ex (e1.trans e2))) (evd_var rfl hv) (th_at h1)) evd_int (insL_1 hz)) (evd_var rfl (ry.ex e2)))) (eq_var hz hy)
    refine key H1 (Ex.refl _) _ fun l vs H2 hl e2 h2 hz r => k _ H2 (e1.trans e2) ⟨⟨l, vs, rfl, h2, hz, r⟩, l, rfl, fresh_back e1 hl⟩
end
end RFW
end

section
set_option Elab.async false
set_option linter.all false
set_option maxRecDepth 100000
set_option maxHeartbeats 4000000
/-! tearing: Trip's make_way, settle. -/
namespace RFW
open PySem L2 Evl RF
abbrev gOf (t : T') : Nat → I' := fun i => t.getD i .fence
theorem queueOf_sub {g : Nat → I'} {line : Bool} {ws : List Nat} {a one : Nat} (h : one ∈ queueOf g line ws a) : one ∈ ws := (List.mem_filter.mp h).1
theorem makeWay_len {g : Nat → I'} {line : Bool} {room a : Nat} {ws : List Nat} (hr : 1 ≤ room) : (makeWay g line room ws a).2 + (makeWay g line room ws a).1.length = ws.length := by
  unfold makeWay
  split
  · simp
  · split
    · rename_i h1 h2
      rw [Bool.and_eq_true] at h2
      have hq := of_decide_eq_true h2.2
      cases e : queueOf g line ws a with
      | nil => rw [e] at hq; simp at hq; omega
      | cons b r =>
        have hb : b ∈ ws := queueOf_sub (by rw [e]; exact List.mem_cons_self)
        have := List.length_erase_of_mem hb
        have h3 := List.length_pos_of_mem hb
        show 1 + (ws.erase b).length = ws.length
        omega
    · simp
theorem makeWay_sub {g : Nat → I'} {line : Bool} {room a : Nat} {ws : List Nat} : (makeWay g line room ws a).1.Sublist ws := by
  unfold makeWay
  split
  · exact List.nil_sublist _
  · split
    · exact List.erase_sublist
    · exact List.Sublist.refl _
theorem makeWay_congr {g g' : Nat → I'} {line : Bool} {room a : Nat} {ws : List Nat} (h : ∀ i ∈ ws, g i = g' i) (ha : g a = g' a) : makeWay g line room ws a = makeWay g' line room ws a := by
  have hq : queueOf g line ws a = queueOf g' line ws a := by
    unfold queueOf
    refine List.filter_congr fun i hi => ?_
    rw [h i hi, ha]
  unfold makeWay
  rw [hq, ha]
theorem settled_congr {g g' : Nat → I'} {line : Bool} {goal : Nat} {ws : List Nat} (h : ∀ i, i ≤ goal → g i = g' i) (hw : ∀ i ∈ ws, i ≤ goal) : settled g line goal ws = settled g' line goal ws := by
  have hl : lastOf g goal = lastOf g' goal := by
    unfold lastOf
    rw [h goal (Nat.le_refl _)]
    congr 1
    congr 1
    refine List.filter_congr fun i hi => ?_
    rw [h i (Nat.le_of_lt (List.mem_range.mp hi))]
  unfold settled
  rw [hl]
  by_cases hc : 0 ≤ lastOf g' goal ∧ (lastOf g' goal).toNat ∈ ws
  · rw [if_pos hc, if_pos hc]
    have hq : queueOf g line ws (lastOf g' goal).toNat = queueOf g' line ws (lastOf g' goal).toNat := by
      unfold queueOf
      refine List.filter_congr fun i hi => ?_
      rw [h i (hw i hi), h _ (hw _ hc.2)]
    rw [hq]
  · rw [if_neg hc, if_neg hc]
theorem inV_nat (L : Nat) : ∀ ws : List Nat, inV (.int (L : Int)) (natsV ws) = decide (L ∈ ws)
  | [] => rfl
  | b :: r => by
    have ih := inV_nat L r
    show (eqV (.int (b : Int)) (.int (L : Int)) || inV (.int (L : Int)) (natsV r)) = _
    rw [ih]
    have e : eqV (.int (b : Int)) (.int (L : Int)) = decide (L = b) := by
      show decide ((b : Int) = (L : Int)) = _
      exact decide_eq_decide.mpr ⟨fun h => (Int.ofNat.inj h).symm, fun h => by rw [h]⟩
    rw [e]
    by_cases h : L = b <;> simp [h]
theorem flat_nats : ∀ ws : List Nat, (natsV ws).all flatV = true
  | [] => rfl
  | _ :: r => flat_nats r
theorem foldl_max_is : ∀ (l : List Nat) (z m : Int), (m = z ∨ ∃ a ∈ l, m = ((a : Nat) : Int)) → z ≤ m → (∀ a ∈ l, ((a : Nat) : Int) ≤ m) → l.foldl (fun (m : Int) (a : Nat) => max m (a : Int)) z = m
  | [], z, m, h, _, _ => by
    rcases h with h | ⟨a, ha, _⟩
    · exact h.symm
    · cases ha
  | b :: r, z, m, h, hz, hl => by
    have hb := hl b List.mem_cons_self
    refine foldl_max_is r (max z b) m ?_ (by omega) fun a ha => hl a (List.mem_cons_of_mem _ ha)
    rcases h with h | ⟨a, ha, h⟩
    · left; omega
    · rcases List.mem_cons.mp ha with rfl | ha
      · left; omega
      · exact .inr ⟨a, ha, h⟩
section
variable {K : PySem.W.Frag} {σ : L2.St} {H H' : Hp} {te td : TE}
/-- o.m(..), a weaker answer -/
theorem evr_methI {C x dx : Addr} {fs : List (Str × V)} {m : Str} {Pre : List V → Hp → Rel → Prop} {R : Rel} {E : XK} {tA : TA} {ds : List PyData} (h : Ev te σ H (.ref x)) (ho : H x = some (.ins C dx fs)) (no : fs.lookup m = none) (ha : EvDs tA σ H ds)
    (hp : ∀ vs H1, Ex H H1 → TdAll H1 vs ds → ∃ R', Pre (.ref x :: vs) H1 R' ∧ ∀ v H2, Ex H1 H2 → R' v H2 → R v H2) : EvR (tMeth C m (SpG Pre) [] E te tA) σ H R := fun H1 e Q q =>
  h H1 e _ fun H2 e2 => ⟨x, dx, fs, rfl, (e.trans e2) _ _ ho, no, ha H2 (e.trans e2) _ fun vs H3 e3 r => by
    obtain ⟨R', h1, h2⟩ := hp vs H3 ((e.trans e2).trans e3) r
    exact ⟨R', by rw [List.append_nil]; exact h1, fun v H4 e4 k => q v H4 ((e2.trans e3).trans e4) (h2 v H4 e4 k)⟩⟩
/-- max(l, default=z) -/
theorem evd_maxN {ns : List Nat} {z : Int} (h : EvR te σ H (Ld (natsD ns))) (hz : EvD td σ H (.int z)) (hlt : z ≤ 0) : EvD (tCKw rMaxI (tCons te tNil) (tCons td tNil)) σ H (.int (ns.foldl (fun (m : Int) (a : Nat) => max m (a : Int)) z)) := fun H1 e Q q => h H1 e _ fun v H2 e2 ⟨p, vs, ev, hp, _, r⟩ =>
  hz H2 (e.trans e2) _ fun w H3 e3 rz => by
    subst ev
    have ew : natsD ns = (ns.map fun n : Nat => (n : Int)).map .int := by rw [List.map_map]; rfl
    rw [ew] at r
    have hp3 := e3 _ _ hp
    rw [r.ints_inv] at hp3
    refine ⟨p, _, w, rfl, rfl, hp3, fun hn => ?_, fun m hm hl => ?_⟩
    · have : ns = [] := List.map_eq_nil_iff.mp hn
      subst this
      exact q w H3 (e2.trans e3) rz
    · obtain ⟨a, ha, rfl⟩ := List.mem_map.mp hm
      rw [foldl_max_is ns z (a : Int) (.inr ⟨a, ha, rfl⟩) (by omega) fun b hb => hl b (List.mem_map.mpr ⟨b, hb, rfl⟩)] at q
      exact q _ H3 (e2.trans e3) (.int _)
theorem evd_neg {i : Int} (h : EvD te σ H (.int i)) : EvD (tUn (rU fun i => .int (-i)) te) σ H (.int (-i)) := fun H1 e Q q => h H1 e _ fun v H2 e2 r => ⟨i, r.int_inv, q _ H2 e2 (.int _)⟩
end
section
variable {P : Program} {w : World} {K : PySem.W.Frag} {mg : Str → Option Value} {base : Heap}
/-- self, at -/
def spTM (C : Addr) : Sp := fun vs H Q _ => ∃ (x lw lm : Addr) (t : T') (line : Bool) (room thr : Nat) (ws : List Nat) (n a : Nat) (v1 : V), vs = [.ref x, v1] ∧ Td H v1 (.int (a : Int)) ∧ TO C H x lw lm t line room thr ws n ∧ a < t.length ∧ 1 ≤ room ∧
  ∀ H', ExT lw lm H H' → TO C H' x lw lm t line room thr (makeWay (gOf t) line room ws a).1 (n + (makeWay (gOf t) line room ws a).2) → Q .non H'
theorem scTM : FnScope ["self", "at", "one"] ["self", "at"] (defScope sTM) := ⟨rfl, rfl, rfl, by decide +kernel, rfl, by decide +kernel, by decide +kernel⟩
theorem ok_tm {C : Addr} (T : Txt mg) (W : TTrip K C) (D1 : DefOk P w K mg base "empties" ["instruction"] 1 (SpD fEmp)) (M1 : MethOk P w K mg base C "flush" ["self", "at"] 1 (spTF C)) (M2 : MethOk P w K mg base C "queue_of" ["self", "at"] 1 (SpG (pTQ C)))
    (h : HereM K C "make_way" "Trip.make_way" sTM ["self", "at"]) : MethOk P w K mg base C "make_way" ["self", "at"] 2 (spTM C) := h.ok fun F => by
  refine F.ok scTM (fun vs H Q E h => ?_) (fun cdv A outer s H vs Q E hr h => ?_)
  · obtain ⟨x, lw, lm, t, line, room, thr, ws, n, a, v1, rfl, _⟩ := h
    rfl
  · obtain ⟨x, lw, lm, t, line, room, thr, ws, n, a, v1, rfl, r1, o, hat, hroom, k⟩ := h
    have nd := scTM.nd
    refine ⟨_, pss_one (ps_if (pt_val (pe_def D1 hr rfl (pa_cons (pe_ix (ixT K) (pfK K (pv 0)) (pv 1) (fun _ _ => rfl)) pa_nil) pass0))
      (pss_one (ps_for PassesOwn.never rfl (pi_list (pe_callTy call_list_of (by rfl) T.list PyProof.Rows.boot_list (pa_cons (pfK K (pv 0)) pa_nil))) (pg_name (i := 2) nd rfl (.inl rfl))
        (pss_one (ps_expr (pe_m M1 W.cl hr (pv 0) (pa_cons (pv 2) pa_nil) pass0)))))
      (pss_one (ps_if (PW.pt (pw_and (pt_cmpR op_eq (pe_ix (ixT K) (pe_ix (ixT K) (pfK K (pv 0)) (pv 1) (fun _ _ => rfl)) pe_int (fun _ _ => rfl)) (pe_gs T.STORE) (nomark _)) (pw_and1 (pt_cmpR op_eq (pe_callB call_len_seq (by rfl) T.len PySem.boot_len (pa_cons (pe_m M2 W.cl hr (pv 0) (pa_cons (pv 1) pa_nil) pass0) pa_nil)) (pfK K (pv 0)) (nomark _)))))
        (pss_one (ps_expr (pe_m M1 W.cl hr (pv 0) (pa_cons (pe_ix (ixL K) (pe_m M2 W.cl hr (pv 0) (pa_cons (pv 1) pa_nil) pass0) pe_int (fun _ _ => rfl)) pa_nil) pass0))) pss_nil))), ?_⟩
    obtain ⟨dx, vI, hx, rI⟩ := o.ob
    refine s_if (evt_B (evd_call (evds1 (evd_ix (evd_fld (ev_ref rfl) hx W.cl W.nI rfl rI) (evd_var rfl r1) (th_at hat))) ⟨_, rfl, rfl⟩)) (fun hb H1 e1 => ?_) (fun hb H1 e1 => ?_)
    · have mw : makeWay (gOf t) line room ws a = ([], ws.length) := by unfold makeWay; rw [if_pos hb]
      rw [mw] at k
      have o1 := o.ext e1
      have hx1 := e1 _ _ hx
      have hz := o.sz
      refine s_forV (R := fun v H' => Ld (natsD ws) v H' ∧ ∃ l, v = .ref l ∧ H1 l = none) (fun H2 e2 Q q => el_list (ev_fld (ev_ref rfl) hx1 W.cl W.nW rfl) (sq_of o1.wa) H2 e2 Q fun p H3 hp e3 h3 => q _ H3 e3 ⟨⟨p, _, rfl, h3, by rw [List.length_map]; omega, natsV_td _ _⟩, p, rfl, fresh_back e2 hp⟩) fun lv H2 e2 ⟨hld, l0, hl0, hfr⟩ => ?_
      have o2 := o1.ext e2
      have h1l : l0 ≠ lw := fun z => by rw [z, o1.wa] at hfr; cases hfr
      have h2l : l0 ≠ lm := fun z => by obtain ⟨ms, hm, _⟩ := o1.ma; rw [z, hm] at hfr; cases hfr
      refine for_ld hld (fun L vs i σ' H' => L = l0 ∧ H' L = some (.lst vs) ∧ TdAll H' vs (natsD ws) ∧ ExT lw lm H2 H' ∧ TO C H' x lw lm t line room thr (ws.drop i) (n + i) ∧ ∃ x2, σ' = [some (.ref x), some v1, x2])
        (fun L vs hL hLs hvs => ⟨by rw [hL] at hl0; exact V.ref.inj hl0, hLs, hvs, ExT.refl _ _ _, o2, _, rfl⟩) (fun L vs i σ' H' ⟨_, a, b, _⟩ => ⟨a, b⟩) (fun L vs i av dd σ' H' hi hav ⟨eL, hL, hvs, et, oi, x2, es⟩ => ?_) (fun L vs σ' H' ⟨eL, hL, hvs, et, oi, x2, es⟩ => ?_)
      · subst es eL
        rw [List.getElem?_map] at hi
        obtain ⟨b, hbi, rfl⟩ := Option.map_eq_some_iff.mp hi
        obtain ⟨hil, hib⟩ := List.getElem?_eq_some_iff.mp hbi
        have hdrop : ws.drop i = b :: ws.drop (i + 1) := by rw [List.drop_eq_getElem_cons hil, hib]
        obtain ⟨dxi, vIi, hxi, rIi⟩ := oi.ob
        refine s_meth (ev_ref rfl) hxi rfl (evds1 (evd_var rfl hav)) fun us H3 e3 r => ?_
        obtain ⟨w1, rfl, t1⟩ := r.inv1
        refine ⟨x, lw, lm, t, line, room, thr, _, _, b, w1, rfl, t1, oi.ext e3, by rw [hdrop]; exact List.mem_cons_self, fun H4 e4 o4 => ?_⟩
        have e34 : ExT lw lm H' H4 := (ExT.of e3).trans e4
        rw [hdrop, List.erase_cons_head] at o4
        refine ⟨rfl, e34 _ _ hL h1l h2l, hvs.keep (oi.tk e34), et.trans e34, o4, _, rfl⟩
      · rw [List.length_map, List.drop_length] at oi
        exact k H' (((ExT.of e1).trans (ExT.of e2)).trans et) oi
    · have o1 := o.ext e1
      have hx1 := e1 _ _ hx
      have R1 := r1.ex e1
      have hbe : (t.getD a .fence).empties = false := hb
      by_cases hst : (t.getD a .fence).isStore = true
      · have eq1 : ∀ {H2 : Hp}, Ex H1 H2 → EvR (tMeth C "queue_of" (SpG (pTQ C)) [] E0 (tVar 0) (tCons (tVar 1) tNil)) [some (.ref x), some v1, none] H2 (Ld (natsD (queueOf (gOf t) line ws a))) := fun {H2} e2 =>
          evr_methI (ev_ref rfl) (e2 _ _ hx1) rfl (evds1 (evd_var rfl (R1.ex e2))) fun us H3 e3 r => by
            obtain ⟨w1, rfl, t1⟩ := r.inv1
            exact ⟨_, ⟨x, lw, lm, t, line, room, thr, ws, n, a, w1, rfl, t1, o1.ext (e2.trans e3), hat, acc_of_store hst, rfl⟩, fun v H4 _ h => h.1⟩
        refine s_when (b := decide ((queueOf (gOf t) line ws a).length = room)) (et_is (et_and (a := true) (et_is (evt_B (evd_eqS (evd_ix (evd_ix (evd_fld (ev_ref rfl) hx1 W.cl W.nI rfl (rI.ex e1)) (evd_var rfl R1) (th_at hat)) evd_int (insL_0 _)) evd_str)) ((isStore_w _).trans hst)) fun _ =>
          et_is (evt_B (evd_eqI (evd_lenL (eq1 (Ex.refl _))) (evd_fld (ev_ref rfl) hx1 W.cl W.nR rfl (.int _)))) (b := decide ((queueOf (gOf t) line ws a).length = room)) ?_) (Bool.true_and _)) (fun hq H2 e2 => ?_) (fun hq H2 e2 => ?_)
        · rw [List.length_map]
          exact decide_eq_decide.mpr ⟨fun h => Int.ofNat.inj h, fun h => by rw [h]⟩
        · have hq' := of_decide_eq_true hq
          have mw : makeWay (gOf t) line room ws a = (ws.erase ((queueOf (gOf t) line ws a).headD 0), 1) := by
            unfold makeWay
            rw [if_neg (by show ¬ (t.getD a .fence).empties = true; rw [hbe]; decide), if_pos (by show ((t.getD a .fence).isStore && _) = true; rw [hst, hq]; rfl)]
          rw [mw] at k
          cases hQ : queueOf (gOf t) line ws a with
          | nil => rw [hQ] at hq'; simp at hq'; omega
          | cons b r =>
            have hb : b ∈ ws := queueOf_sub (g := gOf t) (line := line) (a := a) (by rw [hQ]; exact List.mem_cons_self)
            refine s_meth (ev_ref rfl) (e2 _ _ hx1) rfl (evds1 (evd_ixL (d := .int (b : Nat)) (eq1 e2) evd_int (by rw [hQ]; exact atI_0))) fun us H3 e3 r => ?_
            obtain ⟨w1, rfl, t1⟩ := r.inv1
            refine ⟨x, lw, lm, t, line, room, thr, ws, n, b, w1, rfl, t1, o1.ext (e2.trans e3), hb, fun H4 e4 o4 => ?_⟩
            rw [hQ] at k
            exact k H4 ((ExT.of ((e1.trans e2).trans e3)).trans e4) o4
        · have hq' := of_decide_eq_false hq
          have mw : makeWay (gOf t) line room ws a = (ws, 0) := by
            unfold makeWay
            rw [if_neg (by show ¬ (t.getD a .fence).empties = true; rw [hbe]; decide), if_neg (by rw [Bool.and_eq_true]; exact fun z => hq' (of_decide_eq_true z.2))]
          rw [mw] at k
          exact k H2 (ExT.of (e1.trans e2)) (o1.ext e2)
      · have hst' : (t.getD a .fence).isStore = false := by simpa using hst
        have mw : makeWay (gOf t) line room ws a = (ws, 0) := by
          unfold makeWay
          rw [if_neg (by show ¬ (t.getD a .fence).empties = true; rw [hbe]; decide), if_neg (by rw [Bool.and_eq_true]; exact fun z => hst z.1)]
        rw [mw] at k
        refine s_when (b := false) (et_is (et_and (a := false) (b := true) (et_is (evt_B (evd_eqS (evd_ix (evd_ix (evd_fld (ev_ref rfl) hx1 W.cl W.nI rfl (rI.ex e1)) (evd_var rfl R1) (th_at hat)) evd_int (insL_0 _)) evd_str)) ((isStore_w _).trans hst')) fun z => (by cases z)) rfl) (fun z => (by cases z)) (fun _ H2 e2 => k H2 (ExT.of (e1.trans e2)) (o1.ext e2))
end
end RFW
end

section
set_option Elab.async false
set_option linter.all false
set_option maxRecDepth 100000
set_option maxHeartbeats 4000000
/-! tearing: Trip's settle. -/
namespace RFW
open PySem L2 Evl RF
theorem op_eqK {X : Cx} (K : PySem.W.Frag) (hu : X.A.units + 64 < cLine) (hK : X.K = K := by rfl) : OpR X (compareOp .Eq) (rEqD K) := by subst hK; exact op_eqD hu
theorem sub_nodup {ws : List Nat} {g : Nat → I'} {line : Bool} {a : Nat} (h : ws.Nodup) : (queueOf g line ws a).Nodup := h.filter _
section
variable {P : Program} {w : World} {K : PySem.W.Frag} {mg : Str → Option Value} {base : Heap}
/-- self, goal -/
def spTS (C : Addr) : Sp := fun vs H Q _ => ∃ (x lw lm : Addr) (t : T') (line : Bool) (room thr : Nat) (ws : List Nat) (n goal : Nat) (v1 : V), vs = [.ref x, v1] ∧ Td H v1 (.int (goal : Int)) ∧ TO C H x lw lm t line room thr ws n ∧ goal < t.length ∧ (t.getD goal .fence).isAcc = true ∧
  ws.Nodup ∧ (∀ i ∈ t, VarOk i) ∧ ∀ H' ws', ExT lw lm H H' → TO C H' x lw lm t line room thr ws' (n + settled (gOf t) line goal ws) → Q .non H'
theorem scTS : FnScope ["self", "goal", "word", "variable", "last", "own", "one", "at"] ["self", "goal"] (defScope sTS) := ⟨rfl, rfl, rfl, by decide +kernel, rfl, by decide +kernel, by decide +kernel⟩
theorem ok_ts {C : Addr} (T : Txt mg) (W : TTrip K C) (M1 : MethOk P w K mg base C "flush" ["self", "at"] 1 (spTF C)) (M2 : MethOk P w K mg base C "queue_of" ["self", "at"] 1 (SpG (pTQ C)))
    (h : HereM K C "settle" "Trip.settle" sTS ["self", "goal"]) : MethOk P w K mg base C "settle" ["self", "goal"] 2 (spTS C) := h.ok fun F => by
  refine F.ok scTS (fun vs H Q E h => ?_) (fun cdv A outer s H vs Q E hr h => ?_)
  · obtain ⟨x, lw, lm, t, line, room, thr, ws, n, a, v1, rfl, _⟩ := h
    rfl
  · obtain ⟨x, lw, lm, t, line, room, thr, ws, n, goal, v1, rfl, r1, o, hat, hac, hnd, hvo, k⟩ := h
    have nd := scTS.nd
    have hu2 := hu65 hr
    have hu3 := Nat.lt_of_le_of_lt (Nat.add_le_add_left (by decide : 64 ≤ 65) _) hu2
    refine ⟨_, pss_cons (ps_asg (pe_ix (ixT K) (pfK K (pv 0)) (pv 1) (fun _ _ => rfl)) (pg_tup (by rfl) (pgs_cons (pg_name (i := 2) nd rfl (.inl rfl)) (pgs_cons (pg_name (i := 3) nd rfl (.inr rfl)) pgs_nil))))
      (pss_cons (ps_set (i := 4) nd rfl (Or.inl rfl) (pv 1))
      (pss_cut (ps_if (pt_cmpR op_eq (pv 2) (pe_gs T.LOAD) (nomark _))
        (pss_cons (ps_setLc (own := [("at", 7)]) (g := gName 7) (i := 5) rfl nd rfl rfl (sw_true rfl rfl rfl (by decide +kernel)) (pi_range1 rfl T.range (pa_cons (pv 1) pa_nil)) (blkOk_by (N := ["self", "goal", "word", "variable", "last", "own", "one", "at"]) (sc := defScope sTS) (by decide +kernel))
          (fun _ _ _ _ _ => pg_name (i := 7) nd rfl (Or.inl rfl)) (fun _ _ _ _ _ => pts_one (pt_cmpR (op_eqK K hu3) (pe_ix (ixT K) (pfK K (pv 0)) (pv 7) (fun _ _ => rfl)) (pe_tup (pa_cons (pe_gs T.STORE) (pa_cons (pv 3) pa_nil))) (nomark _))) (fun _ _ _ _ _ => pv 7))
        (pss_one (ps_set (i := 4) nd rfl (Or.inl rfl) (pe_maxI rfl (by rfl) T.max (pa_cons (pv 5) pa_nil) (pk_cons (pe_un un_neg pe_int) pk_nil))))) pss_nil)
      (pss_one (ps_if (PW.pt (pw_and (pt_cmpR op_ge (pv 4) pe_int (nomark _)) (pw_and1 (pt_cmpR op_in_seq (pv 4) (pfK K (pv 0)) (by rfl)))))
        (pss_one (ps_for PassesOwn.never rfl (pi_list (pe_m M2 W.cl hr (pv 0) (pa_cons (pv 4) pa_nil) pass0)) (pg_name (i := 6) nd rfl (.inl rfl))
          (pss_one (ps_if (pt_cmpR op_le (pv 6) (pv 4) (nomark _)) (pss_one (ps_expr (pe_m M1 W.cl hr (pv 0) (pa_cons (pv 6) pa_nil) pass0))) pss_nil)))) pss_nil)))), ?_⟩
    obtain ⟨dx, vI, hx, rI⟩ := o.ob
    have hsh := o.sh
    obtain ⟨kd, y, hgi⟩ : ∃ kd y, t.getD goal .fence = .acc kd y := by
      cases e : t.getD goal .fence with
      | acc kd y => exact ⟨kd, y, rfl⟩
      | fence => rw [e] at hac; cases hac
    refine q_tup2 (d1 := .str (kdS kd)) (d2 := .str y) ((evd_ix (evd_fld (ev_ref rfl) hx W.cl W.nI rfl rI) (evd_var rfl r1) (th_at hat)).is (by rw [hgi]; rfl)) fun u1 u2 H1 e1 s1 s2 => ?_
    refine q_asgR (evd_var rfl (r1.ex e1)) fun u3 H2 e2 s3 => ?_
    have e12 := e1.trans e2
    have S1 := s1.ex e2
    have S2 := s2.ex e2
    have hx2 := e12 _ _ hx
    have hlast : (gOf t goal).isLoad = decide (kdS kd = "load") := by
      show (t.getD goal .fence).isLoad = _
      rw [hgi, kd_ld]
      cases kd <;> rfl
    refine q_cut (M := fun σ' H3 => Ex H2 H3 ∧ ∃ x2 x3 x5 x6 x7, σ' = [some (.ref x), some v1, x2, x3, some (.int (lastOf (gOf t) goal)), x5, x6, x7]) ?_ fun σ' H3 ⟨e3, x2, x3, x5, x6, x7, es⟩ => ?_
    · refine s_when (et_is (evt_B (evd_eqS (evd_var rfl S1) evd_str)) hlast.symm) (fun hb H3 e3 => ?_) (fun hb H3 e3 => ⟨e3, some u1, some u2, none, none, none, ?_⟩)
      · have hx3 := e3 _ _ hx2
        have e13 := e12.trans e3
        refine q_asgR (evld_lcR (n := goal) (f := fun i => (gOf t i).isStore && decide ((gOf t i).var? = (gOf t goal).var?)) (c := fun i => .int (i : Nat)) (evds1 (evd_var rfl (r1.ex e13))) (by omega) (fun x => rfl) (fun i H4 e4 hi => ?_) (fun i H4 e4 hi _ => evd_var rfl (.int _))).ld fun vo H4 e4 ro => ?_
        · have hit : i < t.length := by omega
          refine et_is (evt_B (evd_eqD (evd_ix (evd_fld (ev_ref rfl) (e4 _ _ hx3) W.cl W.nI rfl (rI.ex (e13.trans e4))) (evd_var rfl (.int _)) (th_at hit)) (evd_tup (ds := [.str "store", .str y]) (evds_cons evd_str (evds1 (evd_var rfl (S2.ex (e3.trans e4))))) (by show 2 ≤ 100000; decide)) ?_ ?_)) ?_
          · exact shaped_of (lay_ins (hvo _ (getD_mem' hit))) (by decide)
          · refine shaped_of (lay_ins (i := .acc .store y) fun z hz => ?_) (by decide)
            cases hz
            have := hvo _ (getD_mem' hat)
            rw [hgi] at this
            exact this _ rfl
          · rw [eqv_ins]
            show _ = ((t.getD i .fence).isStore && decide ((t.getD i .fence).var? = (t.getD goal .fence).var?))
            rw [hgi]
            rfl
        · refine s_asgR (evd_maxN (ns := (List.range goal).filter fun i => (gOf t i).isStore && decide ((gOf t i).var? = (gOf t goal).var?)) (evr_var rfl fun H5 e5 => ro.ex e5) (evd_neg evd_int) (by decide)) fun vl H5 e5 rl => ?_
          refine ⟨(e3.trans e4).trans e5, some u1, some u2, some vo, none, none, ?_⟩
          have : lastOf (gOf t) goal = ((List.range goal).filter fun i => (gOf t i).isStore && decide ((gOf t i).var? = (gOf t goal).var?)).foldl (fun (m : Int) (a : Nat) => max m (a : Int)) (-1) := by unfold lastOf; rw [if_pos hb]
          rw [this]
          rw [rl.int_inv]
          rfl
      · have : lastOf (gOf t) goal = (goal : Int) := by unfold lastOf; rw [if_neg (by rw [hb]; decide)]
        rw [this, s3.int_inv]
        rfl
    · subst es
      have e13 := e12.trans e3
      have hx3 := e13 _ _ hx
      have o3 := o.ext e13
      generalize hL : lastOf (gOf t) goal = L
      by_cases hpos : 0 ≤ L
      · obtain ⟨l, rfl⟩ : ∃ l : Nat, L = (l : Int) := ⟨L.toNat, by omega⟩
        refine s_when (b := decide (l ∈ ws)) (et_is (et_and (a := true) (et_is (evt_B (evd_I0b (g := fun i j => decide (j ≤ i)) (evd_var rfl (.int _)) evd_int)) (decide_eq_true hpos)) fun _ => et_B (ev_is (ev_op (ev_var rfl) (ev_fld (ev_ref rfl) hx3 W.cl W.nW rfl) (rv_inL (sq_of o3.wa) rfl (flat_nats ws))) (by show V.bl (inV _ _) = _; rw [inV_nat]))) (Bool.true_and _)) (fun hb H4 e4 => ?_) (fun hb H4 e4 => ?_)
        · have hlw := of_decide_eq_true hb
          obtain ⟨hlt, hls⟩ := o.st l hlw
          have hset : settled (gOf t) line goal ws = ((queueOf (gOf t) line ws l).filter fun one => decide (one ≤ l)).length := by
            unfold settled
            rw [hL, if_pos ⟨hpos, hlw⟩]; rfl
          rw [hset] at k
          have o4 := o3.ext e4
          have hx4 := e4 _ _ hx3
          refine s_forV (R := fun v H' => Ld (natsD (queueOf (gOf t) line ws l)) v H' ∧ ∃ l', v = .ref l' ∧ H4 l' = none) (evr_methI (ev_ref rfl) hx4 rfl (evds1 (evd_var (d := .int (l : Nat)) rfl (.int _))) fun us H5 e5 r => by
            obtain ⟨w1, rfl, t1⟩ := r.inv1
            exact ⟨_, ⟨x, lw, lm, t, line, room, thr, ws, n, l, w1, rfl, t1, o4.ext e5, hlt, acc_of_store hls, rfl⟩, fun v H6 _ ⟨h1, l', h2, h3⟩ => ⟨h1, l', h2, fresh_back e5 h3⟩⟩) fun lv H5 e5 ⟨hld, l0, hl0, hfr⟩ => ?_
          have o5 := o4.ext e5
          have h1l : l0 ≠ lw := fun z => by rw [z, o4.wa] at hfr; cases hfr
          have h2l : l0 ≠ lm := fun z => by obtain ⟨ms, hm, _⟩ := o4.ma; rw [z, hm] at hfr; cases hfr
          generalize hqs : queueOf (gOf t) line ws l = qs at hld k
          have hqnd : qs.Nodup := by rw [← hqs]; exact sub_nodup hnd
          have hqsub : ∀ q ∈ qs, q ∈ ws := fun q hq => queueOf_sub (by rw [hqs]; exact hq)
          refine for_ld hld (fun La vs i σ' H' => La = l0 ∧ H' La = some (.lst vs) ∧ TdAll H' vs (natsD qs) ∧ ExT lw lm H5 H' ∧ (∃ ws', TO C H' x lw lm t line room thr ws' (n + ((qs.take i).filter fun one => decide (one ≤ l)).length) ∧ ∀ j q, i ≤ j → qs[j]? = some q → q ∈ ws') ∧ ∃ x6, σ' = [some (.ref x), some v1, x2, x3, some (.int (l : Int)), x5, x6, x7])
            (fun La vs hLa hLs hvs => ⟨by rw [hLa] at hl0; exact V.ref.inj hl0, hLs, hvs, ExT.refl _ _ _, ⟨ws, o5, fun j q _ hq => hqsub q (List.mem_of_getElem? hq)⟩, _, rfl⟩) (fun La vs i σ' H' ⟨_, a, b, _⟩ => ⟨a, b⟩) (fun La vs i av dd σ' H' hi hav ⟨eL, hLs, hvs, et, ⟨ws', oi, hin⟩, x6, es⟩ => ?_) (fun La vs σ' H' ⟨eL, hLs, hvs, et, ⟨ws', oi, hin⟩, x6, es⟩ => ?_)
          · subst es eL
            rw [List.getElem?_map] at hi
            obtain ⟨b, hbi, rfl⟩ := Option.map_eq_some_iff.mp hi
            have htake : (qs.take (i + 1)).filter (fun one => decide (one ≤ l)) = (qs.take i).filter (fun one => decide (one ≤ l)) ++ if decide (b ≤ l) = true then [b] else [] := by
              rw [List.take_add_one, hbi, Option.toList_some, List.filter_append, List.filter_cons, List.filter_nil]
            obtain ⟨dxi, vIi, hxi, rIi⟩ := oi.ob
            refine s_when (et_is (evt_B (evd_I0b (g := fun i j => decide (i ≤ j)) (evd_var rfl hav) (evd_var (d := .int (l : Int)) rfl (.int _)))) (b := decide (b ≤ l)) (decide_eq_decide.mpr Int.ofNat_le)) (fun hb2 H6 e6 => ?_) (fun hb2 H6 e6 => ?_)
            · refine s_meth (ev_ref rfl) (e6 _ _ hxi) rfl (evds1 (evd_var rfl (hav.ex e6))) fun us H7 e7 r => ?_
              obtain ⟨w1, rfl, t1⟩ := r.inv1
              refine ⟨x, lw, lm, t, line, room, thr, _, _, b, w1, rfl, t1, (oi.ext e6).ext e7, hin i b (Nat.le_refl _) hbi, fun H8 e8 o8 => ?_⟩
              have e68 : ExT lw lm H' H8 := ((ExT.of e6).trans (ExT.of e7)).trans e8
              refine ⟨rfl, e68 _ _ hLs h1l h2l, hvs.keep (oi.tk e68), et.trans e68, ⟨ws'.erase b, ?_, fun j q hj hq => ?_⟩, _, rfl⟩
              · rw [htake, if_pos hb2, List.length_append]
                exact o8
              · refine (List.mem_erase_of_ne fun z => ?_).mpr (hin j q (by omega) hq)
                subst z
                obtain ⟨j1, j2⟩ := List.getElem?_eq_some_iff.mp hq
                obtain ⟨i1, i2⟩ := List.getElem?_eq_some_iff.mp hbi
                have := (List.getElem_inj (h₀ := j1) (h₁ := i1) hqnd).mp (j2.trans i2.symm)
                omega
            · refine ⟨rfl, e6 _ _ hLs, hvs.ex e6, et.trans (ExT.of e6), ⟨ws', ?_, fun j q hj hq => hin j q (by omega) hq⟩, _, rfl⟩
              rw [htake, if_neg (by rw [hb2]; decide), List.append_nil]
              exact oi.ext e6
          · rw [List.length_map, List.take_length] at oi
            exact k H' ws' (((ExT.of (e13.trans e4)).trans (ExT.of e5)).trans et) oi
        · have hlw := of_decide_eq_false hb
          have hset : settled (gOf t) line goal ws = 0 := by
            unfold settled
            rw [hL, if_neg fun z => hlw z.2]
          rw [hset] at k
          exact k H4 ws (ExT.of (e13.trans e4)) (o3.ext e4)
      · have hset : settled (gOf t) line goal ws = 0 := by
          unfold settled
          rw [hL, if_neg fun z => hpos z.1]
        rw [hset] at k
        refine s_when (b := false) (et_is (et_and (a := false) (b := true) (et_is (evt_B (evd_I0b (g := fun i j => decide (j ≤ i)) (evd_var (d := .int L) rfl (.int _)) evd_int)) (decide_eq_false hpos)) fun z => (by cases z)) rfl) (fun z => (by cases z)) (fun _ H4 e4 => k H4 ws (ExT.of (e13.trans e4)) (o3.ext e4))
end
end RFW
end

section
set_option Elab.async false
set_option linter.all false
set_option maxRecDepth 100000
set_option maxHeartbeats 4000000
/-! tearing: Trip.__init__. -/
namespace RFW
open PySem L2 Evl RF
theorem tripRun_succ (g : Nat → I') (line : Bool) (room i : Nat) : tripRun g line room (i + 1) = tripStep g line room (tripRun g line room i) i := by
  unfold tripRun
  rw [List.range_succ, List.foldl_append]
  rfl
theorem tripRun_ok {g : Nat → I'} {line : Bool} {room : Nat} (hr : 1 ≤ room) : ∀ i, (tripRun g line room i).1.Nodup ∧ (∀ one ∈ (tripRun g line room i).1, one < i) ∧ (tripRun g line room i).2 + (tripRun g line room i).1.length ≤ 2 * i
  | 0 => ⟨List.nodup_nil, fun _ h => (by cases h), Nat.le_refl _⟩
  | i + 1 => by
    obtain ⟨h1, h2, h3⟩ := tripRun_ok hr i
    rw [tripRun_succ]
    generalize tripRun g line room i = s at h1 h2 h3
    have l1 := makeWay_len (g := g) (line := line) (a := i) (ws := s.1) hr
    have l2 := makeWay_sub (g := g) (line := line) (room := room) (a := i) (ws := s.1)
    unfold tripStep
    generalize makeWay g line room s.1 i = r at l1 l2
    have n1 : r.1.Nodup := l2.nodup h1
    have n2 : ∀ one ∈ r.1, one < i := fun one ho => h2 one (l2.subset ho)
    by_cases hs : (g i).isStore = true
    · simp only [hs, if_true]
      refine ⟨?_, fun one ho => ?_, ?_⟩
      · rw [List.nodup_append]
        refine ⟨n1, by simp, fun a ha b hb e => ?_⟩
        cases List.mem_singleton.mp hb
        have := n2 a ha
        omega
      · rcases List.mem_append.mp ho with ho | ho
        · have := n2 one ho; omega
        · cases List.mem_singleton.mp ho; omega
      · rw [List.length_append, List.length_singleton]; omega
    · simp only [hs, if_false, Bool.false_eq_true]
      refine ⟨n1, fun one ho => ?_, by omega⟩
      have := n2 one ho; omega
section
variable {C : Addr} {H H' : Hp} {x lw lm : Addr} {t : T'} {line : Bool} {room thr : Nat} {ws ws' : List Nat} {n n' : Nat}
theorem TO.made (h : TO C H x lw lm t line room thr ws n) {ms : List V} (hm : H lm = some (.lst ms)) (v : V) (hz : n + 1 + ws.length ≤ 100) : TO C (upd H lm (.lst (ms ++ [v]))) x lw lm t line room thr ws (n + 1) := by
  obtain ⟨dx, vI, h1, h2⟩ := h.ob
  obtain ⟨ms', h3, h4⟩ := h.ma
  rw [hm] at h3; cases h3
  have hxm : x ≠ lm := ne_of h1 hm (by intro z; cases z)
  exact ⟨⟨dx, vI, by rw [upd_ne hxm]; exact h1, h2.keep (TK.lst hm)⟩, by rw [upd_ne h.ne]; exact h.wa, ⟨_, upd_same, by rw [List.length_append, List.length_singleton, h4]⟩, h.ne, hz, h.sh, h.st⟩
theorem TO.wait (h : TO C H x lw lm t line room thr ws n) (a : Nat) (hz : n + (ws.length + 1) ≤ 100) (ha : a < t.length ∧ (t.getD a .fence).isStore = true) : TO C (upd H lw (.lst (natsV ws ++ [.int (a : Int)]))) x lw lm t line room thr (ws ++ [a]) n := by
  obtain ⟨dx, vI, h1, h2⟩ := h.ob
  obtain ⟨ms', h3, h4⟩ := h.ma
  have hxw : x ≠ lw := ne_of h1 h.wa (by intro z; cases z)
  refine ⟨⟨dx, vI, by rw [upd_ne hxw]; exact h1, h2.keep (TK.lst h.wa)⟩, ?_, ⟨ms', by rw [upd_ne h.ne.symm]; exact h3, h4⟩, h.ne, by rw [List.length_append, List.length_singleton]; exact hz, h.sh, fun one ho => ?_⟩
  · rw [upd_same]
    unfold natsV
    rw [List.map_append]; rfl
  · rcases List.mem_append.mp ho with ho | ho
    · exact h.st one ho
    · cases List.mem_singleton.mp ho; exact ha
end
section
variable {K : PySem.W.Frag} {σ : L2.St} {H : Hp} {tv : TE} {D : Ends} {tz : TS} {x C dx : Addr} {fs : List (Str × V)} {ds : List PyData}
theorem q_fldLd {a : Str} (hv : EvLd tv σ H ds) (hx : σ[i]? = some (some (.ref x))) (ho : H x = some (.ins C dx fs)) (c : Cls K C) (n : NoAttr K C a) (hl : fs.length < 1000)
    (q : ∀ p H1, Gr H p ds H1 → tz D σ (upd H1 x (.ins C dx (putF a (.ref p) fs)))) : tSeq (sFld K (tVar i) tv a) tz D σ H :=
  hv H (Ex.refl H) _ fun p vs H1 hp e h1 _ r => ⟨_, hx, x, C, dx, fs, rfl, e _ _ ho, c, n, hl, q p H1 ⟨hp, e, vs, h1, r⟩⟩
end
theorem q_asgV {te : TE} {σ : L2.St} {H : Hp} {R : Rel} {g : TG} {tz : TS} {D : Ends} (h : EvR te σ H R) (k : ∀ v H1, Ex H H1 → R v H1 → g v σ H1 (tz D)) : tSeq (tAsg te g) tz D σ H := h H (Ex.refl H) _ k
/-- x in the making: all else stands -/
structure Jx (C : Addr) (H : Hp) (x dx : Addr) (fs : List (Str × V)) (H' : Hp) : Prop where
  eb : ExB x H H'
  at' : H' x = some (.ins C dx fs)
theorem Jx.ext {C : Addr} {H H1 H2 : Hp} {x dx : Addr} {fs : List (Str × V)} (j : Jx C H x dx fs H1) (e : Ex H1 H2) : Jx C H x dx fs H2 := ⟨j.eb.trans (ExB.of e), e _ _ j.at'⟩
theorem Jx.fld {C : Addr} {H H1 : Hp} {x dx : Addr} {fs fs' : List (Str × V)} (j : Jx C H x dx fs H1) : Jx C H x dx fs' (upd H1 x (.ins C dx fs')) := ⟨j.eb.trans ExB.upd, upd_same⟩
theorem Jx.tk {C : Addr} {H H1 : Hp} {x dx : Addr} {fs fs0 : List (Str × V)} (j : Jx C H x dx fs H1) (h : H x = some (.ins C dx fs0)) : TK H H1 := fun a xs ha => j.eb _ _ ha fun z => by rw [z, h] at ha; cases ha
section
variable {P : Program} {w : World} {K : PySem.W.Frag} {mg : Str → Option Value} {base : Heap}
/-- self, instructions, buffers, thread, goal -/
def spTI (C : Addr) : Sp := fun vs H Q _ => ∃ (x dx : Addr) (t : T') (line : Bool) (room thr goal : Nat) (v1 v2 v3 v4 : V), vs = [.ref x, v1, v2, v3, v4] ∧ H x = some (.ins C dx []) ∧ Td H v1 (thD t) ∧ Td H v2 (boxD line room) ∧ Td H v3 (.int (thr : Int)) ∧ Td H v4 (.int (goal : Int)) ∧
  t.length ≤ 16 ∧ goal < t.length ∧ (t.getD goal .fence).isAcc = true ∧ 1 ≤ room ∧ (∀ i ∈ t, VarOk i) ∧
  ∀ H', ExB x H H' → (∃ dx fs lm ms, H' x = some (.ins C dx fs) ∧ fs.lookup ("made" : Str) = some (.ref lm) ∧ H' lm = some (.lst ms) ∧ ms.length = trip t line room goal) → Q .non H'
theorem scTI : FnScope ["self", "instructions", "buffers", "thread", "goal", "at"] ["self", "instructions", "buffers", "thread", "goal"] (defScope sTI) := ⟨rfl, rfl, rfl, by decide +kernel, rfl, by decide +kernel, by decide +kernel⟩
theorem ok_ti {C : Addr} (T : Txt mg) (W : TTrip K C) (M1 : MethOk P w K mg base C "make_way" ["self", "at"] 2 (spTM C)) (M2 : MethOk P w K mg base C "settle" ["self", "goal"] 2 (spTS C))
    (h : HereI K mg C "Trip" "Trip.__init__" sTI ["self", "instructions", "buffers", "thread", "goal"]) : MakeOk P w K mg base C "Trip" ["self", "instructions", "buffers", "thread", "goal"] 3 (spTI C) := h.ok fun F => by
  refine F.ok scTI (fun vs H Q E h => ?_) (fun cdv A outer s H vs Q E hr h => ?_)
  · obtain ⟨x, dx, t, line, room, thr, goal, v1, v2, v3, v4, rfl, _⟩ := h
    rfl
  · obtain ⟨x, dx, t, line, room, thr, goal, v1, v2, v3, v4, rfl, hx, r1, r2, r3, r4, hsh, hgl, hac, hroom, hvo, k⟩ := h
    have nd := scTI.nd
    refine ⟨_, pss_cons (ps_fld (pv 0) (pv 1) rfl) (pss_cons (ps_asg (pv 2) (pg_tup (by rfl) (pgs_cons (pg_fld (pv 0)) (pgs_cons (pg_fld (pv 0)) pgs_nil)))) (pss_cons (ps_fld (pv 0) (pv 3) rfl) (pss_cons (ps_fld (pv 0) (pe_lst pa_nil) rfl) (pss_cons (ps_fld (pv 0) (pe_lst pa_nil) rfl)
      (pss_cons (ps_for PassesOwn.never rfl (pi_range1 rfl T.range (pa_cons (pe_op op_add (pv 4) pe_int) pa_nil)) (pg_name (i := 5) nd rfl (.inl rfl))
        (pss_cons (ps_expr (pe_m M1 W.cl hr (pv 0) (pa_cons (pv 5) pa_nil) pass0))
        (pss_cons (ps_expr (pe_bm PySem.F.plainAttrs_list PySem.F.slot_list_append PySem.F.type_list_append mt_append (pfK K (pv 0)) (pa_cons (pe_tup (pa_cons pe_str (pa_cons (pv 3) pa_nil))) pa_nil)))
        (pss_one (ps_if (pt_cmpR op_eq (pe_ix (ixT K) (pe_ix (ixT K) (pv 1) (pv 5) (fun _ _ => rfl)) pe_int (fun _ _ => rfl)) (pe_gs T.STORE) (nomark _)) (pss_one (ps_expr (pe_bm PySem.F.plainAttrs_list PySem.F.slot_list_append PySem.F.type_list_append mt_append (pfK K (pv 0)) (pa_cons (pv 5) pa_nil)))) pss_nil)))))
      (pss_one (ps_expr (pe_m M2 W.cl hr (pv 0) (pa_cons (pv 4) pa_nil) pass0)))))))), ?_⟩
    have j0 : Jx C H x dx [] H := ⟨ExB.refl _ _, hx⟩
    rw [r3.int_inv, r4.int_inv]
    refine q_fldR (R := fun v H' => v = v1) (evr_var rfl fun _ _ => rfl) rfl hx W.cl W.nI (by show 0 < 1000; decide) fun v H1 e1 ev => ?_
    subst ev
    have j1 := (j0.ext e1).fld (fs' := putF "instructions" v [])
    generalize upd H1 x (.ins C dx (putF "instructions" v [])) = A1 at j1
    -- self.word, self.room
    refine q_asgV (R := Dt (boxD line room)) (evd_var rfl (r2.keep (j1.tk hx))) fun vb H2 e2 rb => ?_
    obtain ⟨b, xs, rfl, hb, _, rb⟩ := rb.tup_inv
    obtain ⟨b1, b2, rfl, q1, q2⟩ := rb.inv2
    rw [q1.str_inv, q2.int_inv] at hb
    have j2 := j1.ext e2
    refine ⟨b, _, rfl, SqT.of hb, rfl, _, _, rfl, _, rfl, x, C, dx, _, rfl, j2.at', W.cl, W.nWo, (by show 1 < 1000; decide), _, _, rfl, _, rfl, x, C, dx, _, rfl, upd_same, W.cl, W.nR, (by show 2 < 1000; decide), rfl, ?_⟩
    have j3 := (j2.fld (fs' := putF "word" (.str (wordS line)) (putF "instructions" v []))).fld (fs' := putF "room" (.int (room : Int)) (putF "word" (.str (wordS line)) (putF "instructions" v [])))
    show tSeq _ _ _ _ (upd (upd H2 x (.ins C dx (putF "word" (.str (wordS line)) (putF "instructions" v [])))) x (.ins C dx (putF "room" (.int (room : Int)) (putF "word" (.str (wordS line)) (putF "instructions" v [])))))
    generalize upd (upd H2 x (.ins C dx (putF "word" (.str (wordS line)) (putF "instructions" v [])))) x (.ins C dx (putF "room" (.int (room : Int)) (putF "word" (.str (wordS line)) (putF "instructions" v [])))) = A3 at j3
    refine q_fldR (R := fun v H' => v = .int (thr : Nat)) (evr_var rfl fun _ _ => rfl) rfl j3.at' W.cl W.nT (by show 3 < 1000; decide) fun v' H4 e4 ev => ?_
    subst ev
    have j4 := (j3.ext e4).fld (fs' := putF "thread" (.int (thr : Nat)) (putF "room" (.int (room : Int)) (putF "word" (.str (wordS line)) (putF "instructions" v []))))
    generalize upd H4 x (.ins C dx (putF "thread" (.int (thr : Nat)) (putF "room" (.int (room : Int)) (putF "word" (.str (wordS line)) (putF "instructions" v []))))) = A4 at j4
    refine q_fldLd (evld_lst evds_nil (by decide)) rfl j4.at' W.cl W.nW (by show 4 < 1000; decide) fun lw H5 g5 => ?_
    have hlwx : x ≠ lw := ne_of_none j4.at' g5.1
    have hlwH : H lw = none := by
      cases e : H lw with
      | none => rfl
      | some o => have := j4.eb _ _ e hlwx.symm; rw [g5.1] at this; cases this
    have j5 := (j4.ext g5.exx).fld (fs' := putF "waiting" (.ref lw) (putF "thread" (.int (thr : Nat)) (putF "room" (.int (room : Int)) (putF "word" (.str (wordS line)) (putF "instructions" v [])))))
    have w5 : upd H5 x (.ins C dx (putF "waiting" (.ref lw) (putF "thread" (.int (thr : Nat)) (putF "room" (.int (room : Int)) (putF "word" (.str (wordS line)) (putF "instructions" v [])))))) lw = some (.lst []) := by
      obtain ⟨_, _, vs, h1, h2⟩ := g5
      rw [upd_ne hlwx.symm, h1, h2.nil_inv]
    generalize upd H5 x (.ins C dx (putF "waiting" (.ref lw) (putF "thread" (.int (thr : Nat)) (putF "room" (.int (room : Int)) (putF "word" (.str (wordS line)) (putF "instructions" v [])))))) = A5 at j5 w5
    refine q_fldLd (evld_lst evds_nil (by decide)) rfl j5.at' W.cl W.nM (by show 5 < 1000; decide) fun lm H6 g6 => ?_
    have hlmx : x ≠ lm := ne_of_none j5.at' g6.1
    have hlwm : lw ≠ lm := ne_of_none w5 g6.1
    have hlmH : H lm = none := by
      cases e : H lm with
      | none => rfl
      | some o => have := j5.eb _ _ e hlmx.symm; rw [g6.1] at this; cases this
    have j6 := (j5.ext g6.exx).fld (fs' := putF "made" (.ref lm) (putF "waiting" (.ref lw) (putF "thread" (.int (thr : Nat)) (putF "room" (.int (room : Int)) (putF "word" (.str (wordS line)) (putF "instructions" v []))))))
    have m6 : upd H6 x (.ins C dx (putF "made" (.ref lm) (putF "waiting" (.ref lw) (putF "thread" (.int (thr : Nat)) (putF "room" (.int (room : Int)) (putF "word" (.str (wordS line)) (putF "instructions" v []))))))) lm = some (.lst []) := by
      obtain ⟨_, _, vs, h1, h2⟩ := g6
      rw [upd_ne hlmx.symm, h1, h2.nil_inv]
    have w6 : upd H6 x (.ins C dx (putF "made" (.ref lm) (putF "waiting" (.ref lw) (putF "thread" (.int (thr : Nat)) (putF "room" (.int (room : Int)) (putF "word" (.str (wordS line)) (putF "instructions" v []))))))) lw = some (.lst []) := by
      rw [upd_ne hlwx.symm]; exact g6.exx _ _ w5
    generalize upd H6 x (.ins C dx (putF "made" (.ref lm) (putF "waiting" (.ref lw) (putF "thread" (.int (thr : Nat)) (putF "room" (.int (room : Int)) (putF "word" (.str (wordS line)) (putF "instructions" v []))))))) = A6 at j6 m6 w6
    have hx6 : A6 x = some (.ins C dx (tFs v line room thr lw lm)) := j6.at'
    have o6 : TO C A6 x lw lm t line room thr [] 0 := ⟨⟨dx, v, hx6, r1.keep (j6.tk hx)⟩, w6, ⟨[], m6, rfl⟩, hlwm, by decide, hsh, fun _ h => (by cases h)⟩
    -- the loop
    let g : Nat → I' := fun i => (t.take (goal + 1)).getD i .fence
    have hg : ∀ i, i ≤ goal → gOf t i = g i := fun i hi => by
      show t.getD i .fence = (t.take (goal + 1)).getD i .fence
      rw [List.getD_eq_getElem?_getD, List.getD_eq_getElem?_getD, List.getElem?_take_of_lt (by omega)]
    refine q_forR (n := goal + 1) (evds1 ((evd_I0 (g := fun i j => i + j) (evd_var (d := .int (goal : Nat)) rfl (.int _)) evd_int).is rfl)) (by omega)
      (fun i σ' H' => ExT lw lm A6 H' ∧ TO C H' x lw lm t line room thr (tripRun g line room i).1 (tripRun g line room i).2 ∧ ∃ x5, σ' = [some (.ref x), some v, some v2, some (.int (thr : Nat)), some (.int (goal : Nat)), x5])
      (fun H7 e7 => ⟨ExT.of e7, o6.ext e7, _, rfl⟩) (fun a σ' H' ha ⟨et, oi, x5, es⟩ => ?_) (fun σ' H' ⟨et, oi, x5, es⟩ => ?_)
    · subst es
      obtain ⟨n1, n2, n3⟩ := tripRun_ok (g := g) (line := line) hroom a
      have hat : a < t.length := by omega
      rw [tripRun_succ]
      generalize hs : tripRun g line room a = st at oi n1 n2 n3
      obtain ⟨dx', vI, hxi, rIi⟩ := oi.ob
      refine q_meth (ev_ref rfl) hxi rfl (evds1 (evd_var (d := .int (a : Nat)) rfl (.int _))) fun us H7 e7 r => ?_
      obtain ⟨w1, rfl, t1⟩ := r.inv1
      refine ⟨x, lw, lm, t, line, room, thr, st.1, st.2, a, w1, rfl, t1, oi.ext e7, hat, hroom, fun H8 e8 o8 => ?_⟩
      have mw : makeWay (gOf t) line room st.1 a = makeWay g line room st.1 a := makeWay_congr (fun i hi => hg i (by have := n2 i hi; omega)) (hg a (by omega))
      rw [mw] at o8
      have l1 := makeWay_len (g := g) (line := line) (a := a) (ws := st.1) hroom
      have hstep : tripStep g line room st a = (if (g a).isStore then (makeWay g line room st.1 a).1 ++ [a] else (makeWay g line room st.1 a).1, st.2 + (makeWay g line room st.1 a).2 + 1) := rfl
      rw [hstep]
      generalize makeWay g line room st.1 a = mk at o8 l1
      have e68 : ExT lw lm A6 H8 := (et.trans (ExT.of e7)).trans e8
      obtain ⟨dx8, vI8, hx8, rI8⟩ := o8.ob
      obtain ⟨ms, hms, hml⟩ := o8.ma
      refine q_appR hms (ev_fld (ev_ref rfl) hx8 W.cl W.nM rfl) (evd_tup (ds := [.str "do", .int (thr : Nat)]) (evds_cons evd_str (evds1 (evd_var rfl (.int _)))) (by show 2 ≤ 100000; decide)) (by omega) fun vd H9 e9 _ hm9 => ?_
      have o9 := (o8.ext e9).made hm9 vd (by omega)
      have e69 : ExT lw lm A6 (upd H9 lm (.lst (ms ++ [vd]))) := (e68.trans (ExT.of e9)).trans ExT.upd2
      generalize upd H9 lm (.lst (ms ++ [vd])) = A9 at o9 e69
      have R9 : Td A9 v (thD t) := (r1.keep (j6.tk hx)).keep (o6.tk e69)
      refine s_when (et_is (evt_B (evd_eqS (evd_ix (evd_ix (evd_var rfl R9) (evd_var rfl (.int _)) (th_at hat)) evd_int (insL_0 _)) evd_str)) (b := (g a).isStore) (by rw [isStore_w]; exact congrArg Ins.isStore (hg a (by omega)))) (fun hb HA eA => ?_) (fun hb HA eA => ?_)
      · have oA := o9.ext eA
        obtain ⟨dxA, vIA, hxA, rIA⟩ := oA.ob
        refine s_appR oA.wa (ev_fld (ev_ref rfl) hxA W.cl W.nW rfl) (evd_var (d := .int (a : Nat)) rfl (.int _)) (by rw [List.length_map]; omega) fun va HB eB rB hwB => ?_
        rw [rB.int_inv]
        refine ⟨((e69.trans (ExT.of eA)).trans (ExT.of eB)).trans ExT.upd1, ?_, _, rfl⟩
        show TO C _ x lw lm t line room thr (if (g a).isStore = true then mk.1 ++ [a] else mk.1) (st.2 + mk.2 + 1)
        rw [if_pos hb]
        exact (oA.ext eB).wait a (by omega) ⟨hat, (congrArg Ins.isStore (hg a (by omega))).trans hb⟩
      · refine ⟨e69.trans (ExT.of eA), ?_, _, rfl⟩
        show TO C _ x lw lm t line room thr (if (g a).isStore = true then mk.1 ++ [a] else mk.1) (st.2 + mk.2 + 1)
        rw [if_neg (by rw [hb]; decide)]
        exact o9.ext eA
    · subst es
      obtain ⟨n1, n2, n3⟩ := tripRun_ok (g := g) (line := line) hroom (goal + 1)
      obtain ⟨dx', vI, hxi, rIi⟩ := oi.ob
      refine s_meth (ev_ref rfl) hxi rfl (evds1 (evd_var (d := .int (goal : Nat)) rfl (.int _))) fun us H7 e7 r => ?_
      obtain ⟨w1, rfl, t1⟩ := r.inv1
      refine ⟨x, lw, lm, t, line, room, thr, _, _, goal, w1, rfl, t1, oi.ext e7, hgl, hac, n1, hvo, fun H8 ws8 e8 o8 => ?_⟩
      have e68 : ExT lw lm A6 H8 := (et.trans (ExT.of e7)).trans e8
      obtain ⟨dx8, vI8, hx8, rI8⟩ := o8.ob
      obtain ⟨ms, hms, hml⟩ := o8.ma
      refine k H8 (fun c o hc hne => e68 _ _ (j6.eb _ _ hc hne) (ne_of_none hc hlwH) (ne_of_none hc hlmH)) ⟨dx8, _, lm, ms, hx8, rfl, hms, ?_⟩
      rw [hml]
      unfold trip tripG
      rw [settled_congr (g := gOf t) (g' := g) hg fun i hi => by have := n2 i hi; omega]
end
end RFW
end

section
set_option Elab.async false
set_option linter.all false
set_option maxRecDepth 100000
set_option maxHeartbeats 4000000
/-! Search, in plain terms. -/
namespace RFW
open RF PySem
structure Tl where
  c : Nat
  vis : List (Nat × Nat)
def trD (tl : Tl) : PyData := .tuple [.int (tl.c : Int), .tuple (tl.vis.map fun q => plD q.1 q.2)]
def better (a b : Tl) : Bool := PySem.W.dataLt (trD a) (trD b)
theorem alike_vis : ∀ a b : List (Nat × Nat), PySem.W.alikeAll (a.map fun q => plD q.1 q.2) (b.map fun q => plD q.1 q.2) = true
  | [], _ => rfl
  | _ :: _, [] => rfl
  | x :: a, y :: b => by
    show (PySem.W.alike (plD x.1 x.2) (plD y.1 y.2) && PySem.W.alikeAll (a.map fun q => plD q.1 q.2) (b.map fun q => plD q.1 q.2)) = true
    rw [alike_vis a b]
    rfl
theorem alike_tr (a b : Tl) : PySem.W.alike (trD a) (trD b) = true := by
  show (PySem.W.alike (.int (a.c : Int)) (.int (b.c : Int)) && (PySem.W.alikeAll (a.vis.map fun q => plD q.1 q.2) (b.vis.map fun q => plD q.1 q.2) && true)) = true
  rw [alike_vis]
  rfl
theorem better_eq (a b : Tl) : better a b = true → a.c ≤ b.c := by
  intro h
  unfold better trD at h
  rw [PySem.W.dataLt_pair (x := .int (a.c : Int)) (x' := .int (b.c : Int)) rfl (show PySem.W.alike (.tuple _) (.tuple _) = true from alike_vis a.vis b.vis)] at h
  split at h
  · rename_i he
    have : (a.c : Int) = (b.c : Int) := of_decide_eq_true he
    omega
  · rw [PySem.W.dataLt_int] at h
    have := of_decide_eq_true h
    omega
theorem better_ne (a b : Tl) : better a b = false → b.c ≤ a.c := by
  intro h
  unfold better trD at h
  rw [PySem.W.dataLt_pair (x := .int (a.c : Int)) (x' := .int (b.c : Int)) rfl (show PySem.W.alike (.tuple _) (.tuple _) = true from alike_vis a.vis b.vis)] at h
  split at h
  · rename_i he
    have : (a.c : Int) = (b.c : Int) := of_decide_eq_true he
    omega
  · rw [PySem.W.dataLt_int] at h
    have := of_decide_eq_false h
    omega
abbrev SF := List Nat → Option Tl
def enterS1 (p : P') (u t a : Nat) (tl : Tl) (f : SF) (o : Nat) : SF :=
  if u.testBit o = true then f else
  match firstMeet (ins p t a) (th p o) with
  | none => f
  | some e => match f [u ||| 2 ^ o, o, e] with
    | none => setF f [u ||| 2 ^ o, o, e] tl
    | some old => if better tl old = true then setF f [u ||| 2 ^ o, o, e] tl else f
def enterS (p : P') (u t a : Nat) (tl : Tl) (f : SF) (os : List Nat) : SF := os.foldl (enterS1 p u t a tl) f
def nextT (p : P') (line : Bool) (room : Nat) (tl : Tl) (t a : Nat) : Tl := ⟨tl.c + cost p line room t a, tl.vis ++ [(t, a)]⟩
def goS (p : P') (line : Bool) (room u t : Nat) (tl : Tl) (f : SF) (ns : List Nat) : SF := ns.foldl (fun f a => enterS p u t a (nextT p line room tl t a) f (List.range p.length)) f
def LeS (f g : SF) : Prop := ∀ k v, f k = some v → ∃ v', g k = some v' ∧ v'.c ≤ v.c
theorem LeS.refl (f : SF) : LeS f f := fun k v h => ⟨v, h, Nat.le_refl _⟩
theorem LeS.trans {f g h : SF} (a : LeS f g) (b : LeS g h) : LeS f h := fun k v e => by
  obtain ⟨v1, h1, l1⟩ := a k v e
  obtain ⟨v2, h2, l2⟩ := b k v1 h1
  exact ⟨v2, h2, Nat.le_trans l2 l1⟩
section
variable {p : P'} {u t a : Nat} {tl : Tl} {f : SF}
theorem enterS1_cases (o : Nat) : (enterS1 p u t a tl f o = f ∧ (u.testBit o = true ∨ firstMeet (ins p t a) (th p o) = none ∨ ∃ e v, firstMeet (ins p t a) (th p o) = some e ∧ f [u ||| 2 ^ o, o, e] = some v ∧ better tl v = false)) ∨
    (u.testBit o = false ∧ ∃ e, firstMeet (ins p t a) (th p o) = some e ∧ (∀ v, f [u ||| 2 ^ o, o, e] = some v → better tl v = true) ∧ enterS1 p u t a tl f o = setF f [u ||| 2 ^ o, o, e] tl) := by
  by_cases hb : u.testBit o = true
  · left
    refine ⟨?_, .inl hb⟩
    unfold enterS1
    rw [if_pos hb]
  · have hb' : u.testBit o = false := by simpa using hb
    cases hf : firstMeet (ins p t a) (th p o) with
    | none =>
      left
      refine ⟨?_, .inr (.inl rfl)⟩
      unfold enterS1
      rw [if_neg hb, hf]
    | some e =>
      cases hk : f [u ||| 2 ^ o, o, e] with
      | none =>
        right
        refine ⟨hb', e, rfl, fun v z => (by rw [hk] at z; cases z), ?_⟩
        unfold enterS1
        simp only [hf, hk]
        rw [if_neg hb]
      | some v =>
        by_cases hl : better tl v = true
        · right
          refine ⟨hb', e, rfl, fun w z => (by rw [hk] at z; cases z; exact hl), ?_⟩
          unfold enterS1
          simp only [hf, hk]
          rw [if_neg hb, if_pos hl]
        · left
          refine ⟨?_, .inr (.inr ⟨e, v, rfl, hk, by simpa using hl⟩)⟩
          unfold enterS1
          simp only [hf, hk]
          rw [if_neg hb, if_neg hl]
theorem enterS1_le (o : Nat) : LeS f (enterS1 p u t a tl f o) := by
  rcases enterS1_cases (p := p) (u := u) (t := t) (a := a) (tl := tl) (f := f) o with ⟨h, _⟩ | ⟨hb, e, hf, hl, h⟩
  · rw [h]; exact LeS.refl _
  · rw [h]
    intro k v hk
    unfold setF
    by_cases e' : k = [u ||| 2 ^ o, o, e]
    · subst e'
      exact ⟨_, if_pos rfl, better_eq _ _ (hl v hk)⟩
    · exact ⟨v, by rw [if_neg e']; exact hk, Nat.le_refl _⟩
theorem enterS1_out (o : Nat) {k : List Nat} (h : u.testBit o = true ∨ ∀ e, k ≠ [u ||| 2 ^ o, o, e]) : enterS1 p u t a tl f o k = f k := by
  rcases enterS1_cases (p := p) (u := u) (t := t) (a := a) (tl := tl) (f := f) o with ⟨h1, _⟩ | ⟨hb, e, hf, hl, h1⟩
  · rw [h1]
  · rw [h1]
    unfold setF
    rw [if_neg]
    exact h.resolve_left (by rw [hb]; decide) e
theorem enterS1_in {o e : Nat} (h : u.testBit o = false) (hf : firstMeet (ins p t a) (th p o) = some e) : ∃ v, enterS1 p u t a tl f o [u ||| 2 ^ o, o, e] = some v ∧ v.c ≤ tl.c := by
  rcases enterS1_cases (p := p) (u := u) (t := t) (a := a) (tl := tl) (f := f) o with ⟨h1, h2 | h2 | ⟨e', v, h2, h3, h4⟩⟩ | ⟨hb, e', hf', hl, h1⟩
  · rw [h] at h2; cases h2
  · rw [hf] at h2; cases h2
  · rw [hf] at h2; cases h2
    rw [h1]
    exact ⟨v, h3, better_ne _ _ h4⟩
  · rw [hf] at hf'; cases hf'
    rw [h1]
    exact ⟨_, if_pos rfl, Nat.le_refl _⟩
theorem enterS1_new {o : Nat} {k : List Nat} {v : Tl} (h : enterS1 p u t a tl f o k = some v) : f k = some v ∨ (u.testBit o = false ∧ ∃ e, k = [u ||| 2 ^ o, o, e] ∧ firstMeet (ins p t a) (th p o) = some e ∧ v = tl) := by
  rcases enterS1_cases (p := p) (u := u) (t := t) (a := a) (tl := tl) (f := f) o with ⟨h1, _⟩ | ⟨hb, e', hf', hl, h1⟩
  · rw [h1] at h; exact .inl h
  · rw [h1] at h
    unfold setF at h
    by_cases hk : k = [u ||| 2 ^ o, o, e']
    · rw [if_pos hk] at h
      cases h
      exact .inr ⟨hb, e', hk, hf', rfl⟩
    · rw [if_neg hk] at h
      exact .inl h
theorem enterS_le (os : List Nat) : ∀ f : SF, LeS f (enterS p u t a tl f os) := by
  induction os with
  | nil => exact fun f => LeS.refl f
  | cons o r ih => exact fun f => (enterS1_le o).trans (ih _)
theorem enterS_low {u' t' e' : Nat} (h : u' ≤ u) (os : List Nat) : ∀ f : SF, enterS p u t a tl f os [u', t', e'] = f [u', t', e'] := by
  induction os with
  | nil => exact fun f => rfl
  | cons o r ih =>
    intro f
    refine (ih _).trans (enterS1_out o ?_)
    by_cases hb : u.testBit o = true
    · exact .inl hb
    · refine .inr fun e z => ?_
      have h1 : u' = u ||| 2 ^ o := (List.cons.inj z).1
      have h2 := lt_or2 (u := u) (o := o) (by simpa using hb)
      omega
theorem enterS_in {o e : Nat} {os : List Nat} (ho : o ∈ os) (h : u.testBit o = false) (hf : firstMeet (ins p t a) (th p o) = some e) : ∀ f : SF, ∃ v, enterS p u t a tl f os [u ||| 2 ^ o, o, e] = some v ∧ v.c ≤ tl.c := by
  induction os with
  | nil => cases ho
  | cons o' r ih =>
    intro f
    by_cases hm : o ∈ r
    · exact ih hm _
    · have : o = o' := (List.mem_cons.mp ho).resolve_right hm
      subst this
      obtain ⟨v, hv, hl⟩ := enterS1_in (tl := tl) (f := f) h hf
      obtain ⟨v', hv', hl'⟩ := enterS_le r (enterS1 p u t a tl f o) _ v hv
      exact ⟨v', hv', Nat.le_trans hl' hl⟩
theorem enterS_new {os : List Nat} {k : List Nat} {v : Tl} : ∀ {f : SF}, enterS p u t a tl f os k = some v → f k = some v ∨ ∃ o, o ∈ os ∧ u.testBit o = false ∧ ∃ e, k = [u ||| 2 ^ o, o, e] ∧ firstMeet (ins p t a) (th p o) = some e ∧ v = tl := by
  induction os with
  | nil => exact fun h => .inl h
  | cons o r ih =>
    intro f h
    rcases ih (f := enterS1 p u t a tl f o) h with h | ⟨o', ho', h⟩
    · rcases enterS1_new h with h | ⟨h1, h2⟩
      · exact .inl h
      · exact .inr ⟨o, List.mem_cons_self, h1, h2⟩
    · exact .inr ⟨o', List.mem_cons_of_mem _ ho', h⟩
variable {line : Bool} {room : Nat}
theorem goS_le (ns : List Nat) : ∀ f : SF, LeS f (goS p line room u t tl f ns) := by
  induction ns with
  | nil => exact fun f => LeS.refl f
  | cons o r ih => exact fun f => (enterS_le _ f).trans (ih _)
theorem goS_low {u' t' e' : Nat} (h : u' ≤ u) (ns : List Nat) : ∀ f : SF, goS p line room u t tl f ns [u', t', e'] = f [u', t', e'] := by
  induction ns with
  | nil => exact fun f => rfl
  | cons o r ih => exact fun f => (ih _).trans (enterS_low h _ f)
theorem goS_in {o e a : Nat} {ns : List Nat} (ha : a ∈ ns) (ho : o < p.length) (h : u.testBit o = false) (hf : firstMeet (ins p t a) (th p o) = some e) : ∀ f : SF, ∃ v, goS p line room u t tl f ns [u ||| 2 ^ o, o, e] = some v ∧ v.c ≤ tl.c + cost p line room t a := by
  induction ns with
  | nil => cases ha
  | cons a' r ih =>
    intro f
    by_cases hm : a ∈ r
    · exact ih hm _
    · have : a = a' := (List.mem_cons.mp ha).resolve_right hm
      subst this
      obtain ⟨v, hv, hl⟩ := enterS_in (tl := nextT p line room tl t a) (List.mem_range.mpr ho) h hf f
      obtain ⟨v', hv', hl'⟩ := goS_le (line := line) (room := room) (tl := tl) r (enterS p u t a (nextT p line room tl t a) f (List.range p.length)) _ v hv
      exact ⟨v', hv', Nat.le_trans hl' hl⟩
theorem goS_new {ns : List Nat} {k : List Nat} {v : Tl} : ∀ {f : SF}, goS p line room u t tl f ns k = some v → f k = some v ∨ ∃ a o, a ∈ ns ∧ o < p.length ∧ u.testBit o = false ∧ ∃ e, k = [u ||| 2 ^ o, o, e] ∧ firstMeet (ins p t a) (th p o) = some e ∧ v = nextT p line room tl t a := by
  induction ns with
  | nil => exact fun h => .inl h
  | cons a r ih =>
    intro f h
    rcases ih (f := enterS p u t a (nextT p line room tl t a) f (List.range p.length)) h with h | ⟨a', o', ha', h⟩
    · rcases enterS_new h with h | ⟨o, ho, h⟩
      · exact .inl h
      · exact .inr ⟨a, o, List.mem_cons_self, List.mem_range.mp ho, h⟩
    · exact .inr ⟨a', o', List.mem_cons_of_mem _ ha', h⟩
end
structure SInv (p : P') (line : Bool) (room home late U : Nat) (S : List (List Nat)) (f : SF) : Prop where
  sound : ∀ k v, f k = some v → v.vis ≠ [] ∧ ∃ vis t e, k = [maskOf vis, t, e] ∧ Reach p line room home late vis t e v.c ∧ v.vis.length ≤ maskOf vis
  base : ∀ o e, o < p.length → o ≠ home → firstMeet (ins p home late) (th p o) = some e → ∃ v, f [2 ^ home ||| 2 ^ o, o, e] = some v ∧ v.c ≤ cost p line room home late
  closed : ∀ u t e v, f [u, t, e] = some v → (u < U ∨ [u, t, e] ∈ S) → ∀ a o e', IsExit (th p t) e a → o < p.length → u.testBit o = false → firstMeet (ins p t a) (th p o) = some e' → ∃ v', f [u ||| 2 ^ o, o, e'] = some v' ∧ v'.c ≤ v.c + cost p line room t a
section
variable {p : P'} {line : Bool} {room home late U : Nat} {S : List (List Nat)} {f : SF}
theorem SInv.start : SInv p line room home late 0 [] (enterS p (2 ^ home) home late ⟨cost p line room home late, [(home, late)]⟩ (fun _ => none) (List.range p.length)) := by
  refine ⟨fun k v h => ?_, fun o e h1 h2 h3 => ?_, fun u t e v _ h => ?_⟩
  · rcases enterS_new h with h | ⟨o, h1, h2, e, h3, h4, h5⟩
    · cases h
    · subst h5
      refine ⟨fun z => (by cases z), [o, home], o, e, ?_, .base (List.mem_range.mp h1) (fun z => ?_) h4, ?_⟩
      · rw [h3]
        show [2 ^ home ||| 2 ^ o, o, e] = [(0 ||| 2 ^ home) ||| 2 ^ o, o, e]
        rw [Nat.zero_or]
      · subst z
        rw [Nat.testBit_two_pow] at h2
        simp at h2
      · show 1 ≤ maskOf [home] ||| 2 ^ o
        exact Nat.le_trans (Nat.two_pow_pos o) Nat.right_le_or
  · refine enterS_in (List.mem_range.mpr h1) ?_ h3 _
    rw [Nat.testBit_two_pow]
    exact decide_eq_false fun z => h2 z.symm
  · rcases h with h | h
    · exact absurd h (Nat.not_lt_zero _)
    · cases h
theorem SInv.go (h : SInv p line room home late U S f) (hS : ∀ k ∈ S, ∃ t e, k = [U, t, e]) {t0 e0 : Nat} {v : Tl} (hv : f [U, t0, e0] = some v) {ns : List Nat} (hns : ∀ a, a ∈ ns ↔ IsExit (th p t0) e0 a) : SInv p line room home late U ([U, t0, e0] :: S) (goS p line room U t0 v f ns) := by
  have le := goS_le (p := p) (u := U) (t := t0) (line := line) (room := room) (tl := v) ns f
  refine ⟨fun k w hk => ?_, fun o e h1 h2 h3 => ?_, fun u t e w hw hu a o e' h1 h2 h3 h4 => ?_⟩
  · rcases goS_new hk with hk | ⟨a, o, h1, h2, h3, e, h4, h5, h6⟩
    · exact h.sound k w hk
    · obtain ⟨_, vis, t, e2, e1, r, hlen⟩ := h.sound _ v hv
      obtain ⟨e4, e5, e6⟩ : U = maskOf vis ∧ t0 = t ∧ e0 = e2 := ⟨(List.cons.inj e1).1, (List.cons.inj (List.cons.inj e1).2).1, (List.cons.inj (List.cons.inj (List.cons.inj e1).2).2).1⟩
      subst e5 e6 h6
      refine ⟨fun z => ?_, o :: vis, o, e, ?_, .step r ((hns a).mp h1) h2 (fun z => ?_) h5, ?_⟩
      · have : (v.vis ++ [(t0, a)]).length = 0 := by
          show (nextT p line room v t0 a).vis.length = 0
          rw [z]; rfl
        rw [List.length_append] at this
        simp at this
      · rw [h4, maskOf_cons, ← e4]
      · rw [e4, testBit_mask] at h3
        exact (of_decide_eq_false h3) z
      · show (v.vis ++ [(t0, a)]).length ≤ _
        rw [List.length_append, List.length_singleton, maskOf_cons, ← e4]
        have := lt_or2 h3
        omega
  · obtain ⟨w, hw, hl⟩ := h.base o e h1 h2 h3
    obtain ⟨w', hw', hl'⟩ := le _ w hw
    exact ⟨w', hw', Nat.le_trans hl' hl⟩
  · have hle : u ≤ U := by
      rcases hu with hu | hu
      · exact Nat.le_of_lt hu
      · rcases List.mem_cons.mp hu with hu | hu
        · exact Nat.le_of_eq (List.cons.inj hu).1
        · obtain ⟨t', e2, e3⟩ := hS _ hu
          exact Nat.le_of_eq (List.cons.inj e3).1
    rw [goS_low hle] at hw
    by_cases hx : [u, t, e] = [U, t0, e0]
    · obtain ⟨x1, x2, x3⟩ : u = U ∧ t = t0 ∧ e = e0 := ⟨(List.cons.inj hx).1, (List.cons.inj (List.cons.inj hx).2).1, (List.cons.inj (List.cons.inj (List.cons.inj hx).2).2).1⟩
      subst x1 x2 x3
      rw [hv] at hw; cases hw
      exact goS_in ((hns a).mpr h1) h2 h3 h4 f
    · obtain ⟨w', hw', hl⟩ := h.closed u t e w hw (by
        rcases hu with hu | hu
        · exact .inl hu
        · exact .inr ((List.mem_cons.mp hu).resolve_left hx)) a o e' h1 h2 h3 h4
      obtain ⟨w2, hw2, hl2⟩ := le _ w' hw'
      exact ⟨w2, hw2, Nat.le_trans hl2 hl⟩
theorem SInv.next (h : SInv p line room home late U S f) (hS : ∀ t e, f [U, t, e] ≠ none → [U, t, e] ∈ S) : SInv p line room home late (U + 1) [] f := ⟨h.sound, h.base, fun u t e v hv hu => by
  refine h.closed u t e v hv ?_
  rcases hu with hu | hu
  · rcases Nat.lt_succ_iff_lt_or_eq.mp hu with h1 | rfl
    · exact .inl h1
    · exact .inr (hS t e (by rw [hv]; exact fun z => (by cases z)))
  · cases hu⟩
theorem SInv.key (h : SInv p line room home late U S f) {k : List Nat} {v : Tl} (hk : f k = some v) (hh : home < p.length) : ∃ u t e, k = [u, t, e] ∧ u < 2 ^ p.length ∧ t < p.length ∧ e < (th p t).length := by
  obtain ⟨_, vis, t, e, e1, e2, _⟩ := h.sound k v hk
  exact ⟨_, t, e, e1, mask_lt (reach_vis hh e2), e2.lt.1, e2.lt.2⟩
theorem SInv.vis (h : SInv p line room home late U S f) {u t e : Nat} {v : Tl} (hk : f [u, t, e] = some v) : v.vis.length ≤ u := by
  obtain ⟨_, vis, t', e', e1, _, e3⟩ := h.sound _ v hk
  rw [(List.cons.inj e1).1]
  exact e3
theorem SInv.complete (h : SInv p line room home late (2 ^ p.length) [] f) (hh : home < p.length) {vis : List Nat} {t e c : Nat} (r : Reach p line room home late vis t e c) : ∃ v, f [maskOf vis, t, e] = some v ∧ v.c ≤ c := by
  induction r with
  | base h1 h2 h3 =>
    obtain ⟨v, hv, hl⟩ := h.base _ _ h1 h2 h3
    refine ⟨v, ?_, hl⟩
    rw [← hv]
    show f [(0 ||| 2 ^ home) ||| 2 ^ _, _, _] = _
    rw [Nat.zero_or]
  | step r h1 h2 h3 h4 ih =>
    obtain ⟨v, hv, hl⟩ := ih
    obtain ⟨v', hv', hl'⟩ := h.closed _ _ _ v hv (.inl (mask_lt (reach_vis hh r))) _ _ _ h1 h2 (by rw [testBit_mask]; exact decide_eq_false h3) h4
    exact ⟨v', hv', by omega⟩
theorem SInv.route (h : SInv p line room home late (2 ^ p.length) [] f) {u t e a early : Nat} {v : Tl} (h1 : f [u, t, e] = some v) (h2 : IsExit (th p t) e a) (h3 : (ins p t a).meets (ins p home early) = true) : Route p line room (home, early, late) (v.c + cost p line room t a) := by
  obtain ⟨_, vis, t', e', e1, r, _⟩ := h.sound _ v h1
  obtain ⟨e5, e6⟩ : t = t' ∧ e = e' := ⟨(List.cons.inj (List.cons.inj e1).2).1, (List.cons.inj (List.cons.inj (List.cons.inj e1).2).2).1⟩
  subst e5 e6
  exact ⟨vis, t, e, v.c, a, r, h2, h3, rfl⟩
theorem SInv.best (h : SInv p line room home late (2 ^ p.length) [] f) (hh : home < p.length) {early c : Nat} (r : Route p line room (home, early, late) c) : ∃ u t e v a, f [u, t, e] = some v ∧ IsExit (th p t) e a ∧ (ins p t a).meets (ins p home early) = true ∧ v.c + cost p line room t a ≤ c := by
  obtain ⟨vis, t, e, c', a, r1, r2, r3, r4⟩ := r
  obtain ⟨v, hv, hl⟩ := h.complete hh r1
  exact ⟨_, t, e, v, a, hv, r2, r3, by omega⟩
end
end RFW
end

section
set_option Elab.async false
set_option linter.all false
set_option maxRecDepth 100000
set_option maxHeartbeats 4000000
/-! tearing: Search's steps_to, enter. -/
namespace RFW
open PySem L2 Evl RF
abbrev sSearch : Stmt := top 25
abbrev sSI : Stmt := inClass sSearch 0
abbrev sSS : Stmt := inClass sSearch 1
abbrev sSE : Stmt := inClass sSearch 2
abbrev sSF : Stmt := inClass sSearch 3
abbrev sST : Stmt := inClass sSearch 4
structure TSearch (K : PySem.W.Frag) (C : Addr) : Prop where
  cl : Cls K C
  nT : NoAttr K C "threads"
  nQ : NoAttr K C "queues"
  nH : NoAttr K C "home"
  nF : NoAttr K C "found"
def sFs (vP vB : V) (home : Nat) (d : Addr) : List (Str × V) := [("threads", vP), ("queues", vB), ("home", .int (home : Int)), ("found", .ref d)]
structure SO (C : Addr) (H : Hp) (x d : Addr) (p : P') (line : Bool) (room home : Nat) : Prop where
  ex : ∃ dx vP vB, H x = some (.ins C dx (sFs vP vB home d)) ∧ Td H vP (progD p) ∧ Td H vB (boxD line room)
section
variable {C : Addr} {H H' : Hp} {x d : Addr} {p : P'} {line : Bool} {room home : Nat}
theorem SO.ext (h : SO C H x d p line room home) (e : Ex H H') : SO C H' x d p line room home := by
  obtain ⟨dx, vP, vB, h1, h2, h3⟩ := h.ex
  exact ⟨dx, vP, vB, e _ _ h1, h2.ex e, h3.ex e⟩
theorem SO.exb {β : Type} {DD : β → PyData} {f : List Nat → Option β} (h : SO C H x d p line room home) (a : DA DD H d f) (e : ExB d H H') : SO C H' x d p line room home := by
  obtain ⟨dx, vP, vB, h1, h2, h3⟩ := h.ex
  obtain ⟨kvs, h4, _⟩ := id a
  exact ⟨dx, vP, vB, e _ _ h1 (ne_of h1 h4 (by intro z; cases z)), h2.keep (a.tk e), h3.keep (a.tk e)⟩
end
/-- read only -/
def DAR {β : Type} (D : β → PyData) (H : Hp) (d : Addr) (f : List Nat → Option β) : Prop := ∃ kvs, Rd H d (.dT kvs) ∧ DF (fun v x => Td H v (D x)) kvs f
theorem DA.rd {β : Type} {D : β → PyData} {H : Hp} {d : Addr} {f : List Nat → Option β} (h : DA D H d f) : DAR D H d f := by
  obtain ⟨kvs, h1, h2⟩ := h
  exact ⟨kvs, .inl h1, h2⟩
theorem DAR.ex {β : Type} {D : β → PyData} {H H' : Hp} {d : Addr} {f : List Nat → Option β} (h : DAR D H d f) (e : Ex H H') : DAR D H' d f := by
  obtain ⟨kvs, h1, h2⟩ := h
  exact ⟨kvs, ex_rd e h1, h2.imp fun v x r => r.ex e⟩
section
variable {K : PySem.W.Frag} {σ : L2.St} {H H' : Hp} {ta tb te td ty : TE} {β : Type} {DD : β → PyData} {f : List Nat → Option β} {d : Addr} {k : List Nat} {ds es : List PyData}
theorem evd_dgetR {y : β} (hd : Ev td σ H (.ref d)) (hk : EvD ty σ H (intsT k)) (h : DAR DD H d f) (e : f k = some y) : EvD (tDGet td ty) σ H (DD y) := fun H1 e1 Q q =>
  hd H1 e1 _ fun H2 e2 => hk H2 (e1.trans e2) _ fun u H3 e3 r => by
    obtain ⟨kvs, h1, h2⟩ := h.ex ((e1.trans e2).trans e3)
    obtain ⟨b, rfl, hb⟩ := r.key
    obtain ⟨v, hv, hr⟩ := h2.val e
    exact ⟨d, v, rfl, .inr ⟨kvs, kI k, b, h1, rfl, hb, hv.symm⟩, q v H3 (e2.trans e3) hr⟩
theorem evd_lenFld {te : TE} {a : Str} {n : Nat} (h : EvR te σ H (fun v H' => ∃ x C dx fs lm ms, v = .ref x ∧ H' x = some (.ins C dx fs) ∧ Cls K C ∧ NoAttr K C a ∧ fs.lookup a = some (.ref lm) ∧ H' lm = some (.lst ms) ∧ ms.length = n)) : EvD (tCB (rLenS K) (tCons (tFld K te a) tNil)) σ H (.int (n : Nat)) := fun H1 e Q q =>
  h H1 e _ fun v H2 e2 ⟨x, C, dx, fs, lm, ms, ev, h1, h2, h3, h4, h5, h6⟩ => by
    subst ev
    exact ⟨x, C, dx, fs, .ref lm, rfl, h1, h2, h3, h4, lm, ms, rfl, .inl (SqL.of h5), q _ H2 e2 (by rw [h6]; exact .int _)⟩
theorem evd_cat (ha : EvD ta σ H (.tuple ds)) (hb : EvD tb σ H (.tuple es)) (hz : ds.length + es.length ≤ 100000) : EvD (tOp (rCatA K) ta tb) σ H (.tuple (ds ++ es)) := fun H1 e1 Q q =>
  ha H1 e1 _ fun x H2 e2 r2 => hb H2 (e1.trans e2) _ fun y H3 e3 r3 => by
    obtain ⟨a, xs, rfl, hx, _, rx⟩ := (r2.ex e3).tup_inv
    obtain ⟨b, ys, rfl, hy, _, ry⟩ := r3.tup_inv
    have lx := rx.length
    have ly := ry.length
    refine ⟨a, b, xs, ys, rfl, rfl, SqT.of hx, SqT.of hy, sz_of (by omega), fun e => ?_, fun _ e => ?_, fun _ _ p hp => ?_⟩
    · subst e
      have : ds = [] := List.length_eq_zero_iff.mp (by rw [← lx]; rfl)
      subst this
      exact q _ H3 (e2.trans e3) r3
    · subst e
      have : es = [] := List.length_eq_zero_iff.mp (by rw [← ly]; rfl)
      subst this
      rw [List.append_nil] at q
      exact q _ H3 (e2.trans e3) (r2.ex e3)
    · exact q _ _ ((e2.trans e3).trans (Ex.new hp)) (.tup upd_same (by rw [List.length_append]; omega) ((rx.append ry).ex (Ex.new hp)))
end
theorem trD_depth (tl : Tl) : (trD tl).depth ≤ 32 := by
  have h : ∀ l : List (Nat × Nat), PyData.depthAll (l.map fun q => plD q.1 q.2) ≤ 1 := fun l => by
    induction l with
    | nil => exact Nat.zero_le _
    | cons q r ih =>
      show max (plD q.1 q.2).depth (PyData.depthAll (r.map fun q => plD q.1 q.2)) ≤ 1
      exact Nat.max_le.mpr ⟨Nat.le_refl _, ih⟩
  show max (PyData.depth (.int (tl.c : Int))) (max (PyData.depthAll (tl.vis.map fun q => plD q.1 q.2) + 1) 0) + 1 ≤ 32
  have := h tl.vis
  have h0 : PyData.depth (.int (tl.c : Int)) = 0 := rfl
  rw [h0]
  omega
/-- the keys are triples of small numbers -/
def DomS (f : SF) : Prop := ∀ k, f k ≠ none → ∃ u t e, k = [u, t, e] ∧ u < 64 ∧ t < 6 ∧ e < 16
theorem DomS.enterS {p : P'} {u t a : Nat} {tl : Tl} {f : SF} (h : DomS f) (ok : ProgOk p) (hu : u < 2 ^ p.length) {os : List Nat} (ho : ∀ o ∈ os, o < p.length) : DomS (RFW.enterS p u t a tl f os) := fun k hk => by
  cases e : RFW.enterS p u t a tl f os k with
  | none => exact absurd e hk
  | some v =>
    rcases enterS_new e with e | ⟨o, h1, h2, e', h3, h4, _⟩
    · exact h k (by rw [e]; exact fun z => (by cases z))
    · have h5 := firstMeet_lt h4
      have h6 := ok.short _ (th_mem (ho o h1))
      exact ⟨_, o, e', h3, or_few ok.few hu (ho o h1), Nat.lt_of_lt_of_le (ho o h1) ok.few, by omega⟩
theorem DomS.len {R : V → Tl → Prop} {f : SF} {kvs : List (List Key × V)} (h : DomS f) (F : DF R kvs f) : kvs.length ≤ 6144 := by
  refine F.few (fun k => match k with | [u, t, e] => u * 96 + t * 16 + e | _ => 0) 6144 (fun k hk => ?_) (fun j k hj hk e => ?_)
  · obtain ⟨u, t, e, rfl, h1, h2, h3⟩ := h k hk
    show u * 96 + t * 16 + e < 6144
    omega
  · obtain ⟨u, t, x, rfl, h1, h2, h3⟩ := h k hk
    obtain ⟨u', t', x', rfl, h4, h5, h6⟩ := h j hj
    have e : u' * 96 + t' * 16 + x' = u * 96 + t * 16 + x := e
    have e1 : u' = u := by omega
    have e2 : t' = t := by omega
    have e3 : x' = x := by omega
    rw [e1, e2, e3]
theorem range_enterS {p : P'} {u t a : Nat} {tl : Tl} {f : SF} (i : Nat) : enterS p u t a tl f (List.range (i + 1)) = enterS1 p u t a tl (enterS p u t a tl f (List.range i)) i := by
  unfold enterS
  rw [List.range_succ, List.foldl_append]
  rfl
section
variable {P : Program} {w : World} {K : PySem.W.Frag} {mg : Str → Option Value} {base : Heap}
/-- self, thread, at -/
def pSS (C : Addr) (vs : List V) (H : Hp) (R : Rel) : Prop := ∃ (x d : Addr) (p : P') (line : Bool) (room home t a : Nat) (v1 v2 : V), vs = [.ref x, v1, v2] ∧ Td H v1 (.int (t : Int)) ∧ Td H v2 (.int (a : Int)) ∧ SO C H x d p line room home ∧ ProgOk p ∧ 1 ≤ room ∧
  t < p.length ∧ a < (th p t).length ∧ (ins p t a).isAcc = true ∧ R = Dt (.int (cost p line room t a : Nat))
theorem scSS : FnScope ["self", "thread", "at"] ["self", "thread", "at"] (defScope sSS) := ⟨rfl, rfl, rfl, by decide +kernel, rfl, by decide +kernel, by decide +kernel⟩
theorem ok_ss {C CT : Addr} (T : Txt mg) (W : TSearch K C) (WT : TTrip K CT) (M1 : MakeOk P w K mg base CT "Trip" ["self", "instructions", "buffers", "thread", "goal"] 3 (spTI CT))
    (h : HereM K C "steps_to" "Search.steps_to" sSS ["self", "thread", "at"]) : MethOk P w K mg base C "steps_to" ["self", "thread", "at"] 5 (SpG (pSS C)) := h.ok fun F => by
  refine F.ok scSS (fun vs H Q E h => ?_) (fun cdv A outer s H vs Q E hr h => ?_)
  · obtain ⟨_, ⟨x, d, p, line, room, home, t, a, v1, v2, rfl, _⟩, _⟩ := h
    rfl
  · obtain ⟨_, ⟨x, d, p, line, room, home, t, a, v1, v2, rfl, r1, r2, o, ok, hroom, ht, ha, hac, rfl⟩, k⟩ := h
    refine ⟨_, pss_one (ps_ret (pe_callB call_len_seq (by rfl) T.len PySem.boot_len (pa_cons (pfK K (pe_mk M1 hr rfl (pa_cons (pe_ix (ixT K) (pfK K (pv 0)) (pv 1) (fun _ _ => rfl)) (pa_cons (pfK K (pv 0)) (pa_cons (pv 1) (pa_cons (pv 2) pa_nil)))) pass0)) pa_nil))), ?_⟩
    obtain ⟨dx, vP, vB, hx, rP, rB⟩ := o.ex
    have hm : EvR (tMake CT (spTI CT) [] E0 (tCons (tOp (rIxT K) (tFld K (tVar 0) "threads") (tVar 1)) (tCons (tFld K (tVar 0) "queues") (tCons (tVar 1) (tCons (tVar 2) tNil))))) [some (.ref x), some v1, some v2] H
        (fun v H' => ∃ x dx fs lm ms, v = .ref x ∧ H' x = some (.ins CT dx fs) ∧ fs.lookup ("made" : Str) = some (.ref lm) ∧ H' lm = some (.lst ms) ∧ ms.length = cost p line room t a) := by
      refine evr_make (evds_cons (evd_ix (evd_fld (ev_ref rfl) hx W.cl W.nT rfl rP) (evd_var rfl r1) (prog_at ht)) (evds_cons (evd_fld (ev_ref rfl) hx W.cl W.nQ rfl rB) (evds_cons (evd_var rfl r1) (evds1 (evd_var rfl r2))))) (fun us H2 xa dxa e2 r nx ndx ne Q' kq => ?_)
      obtain ⟨w1, w2, w3, w4, rfl, t1, t2, t3, t4⟩ := r.inv4
      have ee : Ex H2 (upd (upd H2 dxa (.own xa)) xa (.ins CT dxa [])) := fun b o ho => by
        rw [upd_ne (ne_of_none ho nx), upd_ne (ne_of_none ho ndx)]; exact ho
      refine ⟨xa, dxa, th p t, line, room, t, a, w1, w2, w3, w4, rfl, upd_same, t1.ex ee, t2.ex ee, t3.ex ee, t4.ex ee, ok.short _ (th_mem ht), ha, hac, hroom, fun i hi => ok.vars _ (th_mem ht) i hi, fun H' eb ⟨dx2, fs, lm, ms, h1, h2, h3, h4⟩ => ?_⟩
      exact kq H' (fun b o ho => eb b o (ee b o ho) (ne_of_none ho nx)) ⟨xa, dx2, fs, lm, ms, rfl, h1, h2, h3, h4⟩
    exact s_retR (evd_lenFld (hm.imp fun v H2 _ ⟨xa, dxa, fs, lm, ms, ev, h1, h2, h3, h4⟩ => ⟨xa, CT, dxa, fs, lm, ms, ev, h1, WT.cl, WT.nM, h2, h3, h4⟩)) k
/-- self, used, place, trail -/
def spSE (C : Addr) : Sp := fun vs H Q _ => ∃ (x d : Addr) (p : P') (line : Bool) (room home u t a : Nat) (tl : Tl) (f : SF) (v1 v2 v3 : V), vs = [.ref x, v1, v2, v3] ∧ Td H v1 (.int (u : Int)) ∧ Td H v2 (plD t a) ∧ Td H v3 (trD tl) ∧ SO C H x d p line room home ∧ DA trD H d f ∧ DomS f ∧
  ProgOk p ∧ u < 2 ^ p.length ∧ t < p.length ∧ a < (th p t).length ∧ (ins p t a).isAcc = true ∧ ∀ H', ExB d H H' → DA trD H' d (enterS p u t a tl f (List.range p.length)) → Q .non H'
theorem scSE : FnScope ["self", "used", "place", "trail", "other", "entry", "state"] ["self", "used", "place", "trail"] (defScope sSE) := ⟨rfl, rfl, rfl, by decide +kernel, rfl, by decide +kernel, by decide +kernel⟩
theorem ok_se {C : Addr} (T : Txt mg) (W : TSearch K C) (D1 : DefOk P w K mg base "first_meeting" ["program", "place", "thread"] 3 (SpD fFirst))
    (h : HereM K C "enter" "Search.enter" sSE ["self", "used", "place", "trail"]) : MethOk P w K mg base C "enter" ["self", "used", "place", "trail"] 4 (spSE C) := h.ok fun F => by
  refine F.ok scSE (fun vs H Q E h => ?_) (fun cdv A outer s H vs Q E hr h => ?_)
  · obtain ⟨x, d, p, line, room, home, u, t, a, tl, f, v1, v2, v3, rfl, _⟩ := h
    rfl
  · obtain ⟨x, d, p, line, room, home, u, t, a, tl, f, v1, v2, v3, rfl, r1, r2, r3, wo, da, dom, ok, hu', ht, ha, hac, k⟩ := h
    have nd := scSE.nd
    have hu := hu_of hr
    have hu2 := hu65 hr
    have hu3 := Nat.lt_of_le_of_lt (Nat.add_le_add_left (by decide : 64 ≤ 65) _) hu2
    refine ⟨_, pss_one (ps_for PassesOwn.never rfl (pi_range1 rfl T.range (pa_cons (pe_callB call_len_seq (by rfl) T.len PySem.boot_len (pa_cons (pfK K (pv 0)) pa_nil)) pa_nil)) (pg_name (i := 4) nd rfl (.inl rfl))
        (pss_cons (ps_set (i := 5) nd rfl (Or.inl rfl) (pe_ifExp (pt_cmpR op_eq (pe_op op_and (pe_op op_shr (pv 1) (pv 4)) pe_int) pe_int (nomark _)) (pe_def D1 hr rfl (pa_cons (pfK K (pv 0)) (pa_cons (pv 2) (pa_cons (pv 4) pa_nil))) pass0) pe_non))
        (pss_cons (ps_set (i := 6) nd rfl (Or.inl rfl) (pe_tup (pa_cons (pe_op op_or (pv 1) (pe_op op_shl pe_int (pv 4))) (pa_cons (pv 4) (pa_cons (pv 5) pa_nil)))))
        (pss_one (ps_if (PW.pt (pw_and (pt_cmpR op_notN (pv 5) pe_non (by rfl)) (pw_and1 (PW.pt (pw_or (pt_cmp (pc_dnotin hu (pv 6) (pfK K (pv 0)))) (pw_or1 (pt_cmpR (op_ltD hu3) (pv 3) (pe_dget hu (pfK K (pv 0)) (pv 6) (fun _ _ => rfl)) (nomark _))))))))
          (pss_one (ps_dput hu (pfK K (pv 0)) (pv 6) (pv 3) rfl)) pss_nil))))), ?_⟩
    have hfew := ok.few
    rw [r1.int_inv]
    obtain ⟨dx, vP, vB, hx, rP, rB⟩ := wo.ex
    refine s_forR (evds1 (evd_len (evd_fld (ev_ref rfl) hx W.cl W.nT rfl rP))) (by rw [List.length_map]; omega) (fun i σ' H' => ExB d H H' ∧ DA trD H' d (enterS p u t a tl f (List.range i)) ∧ ∃ x4 x5 x6, σ' = [some (.ref x), some (.int (u : Nat)), some v2, some v3, x4, x5, x6])
      (fun H2 e2 => ⟨ExB.of e2, da.ex e2, _, _, _, rfl⟩) (fun o σ' H' ho ⟨eb, dai, x5, x6, x7, es⟩ => ?_) (fun σ' H' ⟨eb, dai, x5, x6, x7, es⟩ => k H' eb (dai.is (by rw [List.length_map])))
    subst es
    rw [List.length_map] at ho
    have tk := da.tk eb
    obtain ⟨dx', vP', vB', hx', rP', rB'⟩ := (wo.exb da eb).ex
    have R2 : Td H' v2 (plD t a) := r2.keep tk
    have R3 : Td H' v3 (trD tl) := r3.keep tk
    have domi : DomS (enterS p u t a tl f (List.range o)) := dom.enterS ok hu' fun y hy => Nat.lt_trans (List.mem_range.mp hy) ho
    generalize hfi : enterS p u t a tl f (List.range o) = fi at dai domi
    -- entry
    let fm : Option Nat := if u.testBit o = true then none else firstMeet (ins p t a) (th p o)
    refine q_asgR (R := Dt (optD fm)) (evr_if (b := !u.testBit o) (et_is (evt_B (evd_eqI (evd_I0 (g := fun i j => Builtin.bitAnd i j) (evd_I (g := fun i j => i / 2 ^ j.toNat) (i := (u : Nat)) (j := (o : Nat)) (evd_var rfl (.int _)) (evd_var rfl (.int _)) (Int.natCast_nonneg _)) evd_int) evd_int)) (bit_test u o))
        (fun hb => (evd_call (evds_cons (evd_fld (ev_ref rfl) hx' W.cl W.nT rfl rP') (evds_cons (evd_var rfl R2) (evds1 (evd_var rfl (.int _))))) ⟨p, t, a, o, rfl, ok, ht, ha, hac, ho, rfl⟩).is ?_) (fun hb => evd_non.is ?_)) fun ve H2 e2 re => ?_
    · show optD _ = optD (if u.testBit o = true then none else firstMeet (ins p t a) (th p o))
      rw [if_neg (by simpa using hb)]
    · show PyData.none = optD (if u.testBit o = true then none else firstMeet (ins p t a) (th p o))
      rw [if_pos (by simpa using hb)]; rfl
    -- state
    refine q_asgR (evd_tup (ds := [.int ((u ||| 2 ^ o : Nat) : Int), .int (o : Nat), optD fm]) (evds_cons ((evd_I0 (g := fun i j => Builtin.bitOr i j) (evd_var rfl (.int _)) (evd_I (g := fun i j => i * 2 ^ j.toNat) (i := 1) (j := (o : Nat)) evd_int (evd_var rfl (.int _)) (shl_ok (by omega)))).is (by rw [or_key])) (evds_cons (evd_var rfl (.int _)) (evds1 (evd_var rfl re)))) (by show 3 ≤ 100000; decide)) fun vl H3 e3 rl => ?_
    have e23 := e2.trans e3
    have da3 := dai.ex e23
    have hx3 := e23 _ _ hx'
    have cases1 := enterS1_cases (p := p) (u := u) (t := t) (a := a) (tl := tl) (f := fi) o
    have hfm : ∀ e, fm = some e ↔ (u.testBit o = false ∧ firstMeet (ins p t a) (th p o) = some e) := fun e => by
      show (if u.testBit o = true then none else firstMeet (ins p t a) (th p o)) = some e ↔ _
      cases u.testBit o <;> simp
    have evd0 : Ev (tFld K (tVar 0) "found") [some (V.ref x), some (V.int (u : Nat)), some v2, some v3, some (V.int (o : Nat)), some ve, some vl] H3 (.ref d) := ev_fld (ev_ref rfl) hx3 W.cl W.nF rfl
    have evk : ∀ e, fm = some e → EvD (tVar 6) [some (V.ref x), some (V.int (u : Nat)), some v2, some v3, some (V.int (o : Nat)), some ve, some vl] H3 (intsT [u ||| 2 ^ o, o, e]) := fun e he => evd_var rfl (by
      have := rl
      rw [he] at this
      exact this)
    refine s_when (b := decide (∃ e, fm = some e ∧ ∀ v, fi [u ||| 2 ^ o, o, e] = some v → better tl v = true)) ?_ (fun hb H4 e4 => ?_) (fun hb H4 e4 => ?_)
    · cases hm : fm with
      | none =>
        refine et_is (et_and (a := false) (evt_B ((evd_notN (evd_var rfl (re.ex e3))).is (by rw [hm]; rfl))) (b := true) fun hc => (by cases hc)) ?_
        rw [decide_eq_false fun ⟨e, he, _⟩ => (by cases he)]; rfl
      | some e =>
        refine et_is (et_and (a := true) (evt_B ((evd_notN (evd_var rfl (re.ex e3))).is (by rw [hm]; rfl))) fun _ => et_or (b := match fi [u ||| 2 ^ o, o, e] with | none => true | some v => better tl v) (evt_B (evd_dnotin (evk e hm) evd0 da3)) fun hc => ?_) (b := decide (∃ e', some e = some e' ∧ ∀ v, fi [u ||| 2 ^ o, o, e'] = some v → better tl v = true)) ?_
        · cases hk : fi [u ||| 2 ^ o, o, e] with
          | none => rw [hk] at hc; cases hc
          | some v => exact evt_B (evd_ltD (d := trD tl) (d' := trD v) (evd_var rfl (R3.ex e23)) (evd_dget (DD := trD) evd0 (evk e hm) da3 hk) (alike_tr tl v) (fun z => (by cases z)) (trD_depth tl))
        · cases hk : fi [u ||| 2 ^ o, o, e] with
          | none =>
            refine (decide_eq_true ⟨e, rfl, fun v hv => ?_⟩).symm
            rw [hk] at hv; cases hv
          | some v =>
            show (true && (!true || better tl v)) = _
            cases hbt : better tl v with
            | true =>
              refine (decide_eq_true ⟨e, rfl, fun v' hv => ?_⟩).symm
              rw [hk] at hv; cases hv; exact hbt
            | false =>
              refine (decide_eq_false fun ⟨e', he', hl⟩ => ?_).symm
              cases he'
              rw [hl v hk] at hbt; cases hbt
    · obtain ⟨e, he, hl⟩ := of_decide_eq_true hb
      refine s_dput (y := tl) (evd_var rfl ((R3.ex e23).ex e4)) (fun H5 e5 => evd0 H5 (e4.trans e5)) ((evk e he).mono e4) (da3.ex e4) (fun kvs H5 _ _ F => Nat.lt_of_le_of_lt (domi.len F) (by decide)) fun H5 e5 da5 => ?_
      refine ⟨(eb.trans (ExB.of (e23.trans e4))).trans e5, da5.is ?_, _, _, _, rfl⟩
      rw [range_enterS, hfi]
      rcases cases1 with ⟨_, h2 | h2 | ⟨e', v, h2, h3, h4⟩⟩ | ⟨h1, e', h2, h3, h4⟩
      · rw [((hfm e).mp he).1] at h2; cases h2
      · rw [((hfm e).mp he).2] at h2; cases h2
      · rw [((hfm e).mp he).2] at h2; cases h2
        rw [hl v h3] at h4; cases h4
      · rw [((hfm e).mp he).2] at h2; cases h2
        exact h4.symm
    · refine ⟨eb.trans (ExB.of (e23.trans e4)), (da3.ex e4).is ?_, _, _, _, rfl⟩
      rw [range_enterS, hfi]
      rcases cases1 with ⟨h1, _⟩ | ⟨h1, e', h2, h3, h4⟩
      · exact h1.symm
      · exact absurd ⟨e', (hfm e').mpr ⟨h1, h2⟩, h3⟩ (of_decide_eq_false hb)
end
end RFW
end

section
set_option Elab.async false
set_option linter.all false
set_option maxRecDepth 100000
set_option maxHeartbeats 4000000
/-! tearing: Search's trails_from, __init__. -/
namespace RFW
open PySem L2 Evl RF
theorem op_catK {X : Cx} (K : PySem.W.Frag) (hK : X.K = K := by rfl) : OpR X (binaryOp .Add) (rCatA K) := by subst hK; exact op_catA
theorem atI_last {α : Type} {x : α} {l : List α} : atI (l ++ [x]) (-1) = some x := by
  unfold atI
  have : ixN (l ++ [x]).length (-1) = some l.length := by
    unfold ixN
    rw [List.length_append, List.length_singleton]
    split
    · omega
    · split
      · congr 1; omega
      · omega
  rw [this]
  show (l ++ [x])[l.length]? = some x
  rw [List.getElem?_append_right (Nat.le_refl _), Nat.sub_self]
  rfl
def rListT : List V → Hp → VK → Prop := fun xs H Q => ∃ d kvs, xs = [V.ref d] ∧ Rd H d (.dT kvs) ∧ ∀ p bs, H p = none → IsKeys H kvs bs → Q (.ref p) (upd H p (.lst (bs.map V.ref)))
section
variable {K : PySem.W.Frag} {σ : L2.St} {H H' : Hp} {ta tb te te2 td ty : TE} {t : TT} {g : TG} {ws : List Nat} {R R2 : Rel} {β : Type} {DD : β → PyData} {f : List Nat → Option β} {d : Addr}
theorem isKeys_zip {kvs : List (List Key × V)} {bs : List Addr} (h : IsKeys H kvs bs) : ∃ ys : List (List Key × Addr), ys.map (·.1) = kvs.map (·.1) ∧ (ys.map fun y => V.ref y.2) = bs.map V.ref ∧ ∀ y ∈ ys, H y.2 = some (.tup (y.1.map kV)) := by
  unfold IsKeys at h
  induction h with
  | nil => exact ⟨[], rfl, rfl, fun _ h => (by cases h)⟩
  | cons r _ ih =>
    obtain ⟨ys, h1, h2, h3⟩ := ih
    refine ⟨(_, _) :: ys, by rw [List.map_cons, List.map_cons, h1], by rw [List.map_cons, List.map_cons, h2], fun y hy => ?_⟩
    rcases List.mem_cons.mp hy with rfl | hy
    · exact r
    · exact h3 y hy
theorem evr_listT (h : Ev te σ H (.ref d)) (hd : DA DD H d f) (hk : ∀ k, f k ≠ none → k.length ≤ 100) (hz : ∀ kvs H1, Ex H H1 → H1 d = some (.dT kvs) → DF (fun v x => Td H1 v (DD x)) kvs f → kvs.length ≤ 40000) :
    EvR (tCB rListT (tCons te tNil)) σ H (fun v H1 => ∃ ks : List (List Nat), Ld (ks.map intsT) v H1 ∧ ks.length ≤ 40000 ∧ ∀ k, k ∈ ks ↔ f k ≠ none) := fun H1 e1 Q q => h H1 e1 _ fun H2 e2 => by
  obtain ⟨kvs, h1, F⟩ := hd.ex (e1.trans e2)
  refine ⟨d, kvs, rfl, .inl h1, fun p bs hp ik => ?_⟩
  obtain ⟨ys, y1, y2, y3⟩ := isKeys_zip ik
  obtain ⟨ks, t1, t2⟩ := keys_td F hk (by rw [y1]) y3
  rw [y2] at t1
  have l1 : ys.length = kvs.length := by rw [← List.length_map (f := (·.1)), y1, List.length_map]
  have l2 := t1.length
  rw [← y2, List.length_map, List.length_map, l1] at l2
  have l3 := hz kvs H2 (e1.trans e2) h1 F
  refine q _ _ (e2.trans (Ex.new hp)) ⟨ks, ⟨p, _, rfl, upd_same, ?_, t1.ex (Ex.new hp)⟩, by omega, t2⟩
  rw [← y2, List.length_map, l1]; omega
theorem evr_lcV (h : EvR te σ H R) (k : ∀ v H1, Ex H H1 → R v H1 → EvR (tLc (iList K fun _ H2 Q => Q v H2) g t te2 ws) σ H1 R2) : EvR (tLc (iList K te) g t te2 ws) σ H R2 := fun H1 e Q q =>
  h H1 e _ fun v H2 e2 r => k v H2 (e.trans e2) r H2 (Ex.refl _) Q fun v' H3 e3 r3 => q v' H3 (e2.trans e3) r3
theorem evr_val {v : V} (h : ∀ H1, Ex H H1 → R v H1) : EvR (fun _ H2 Q => Q v H2) σ H R := fun H1 e Q q => q v H1 (Ex.refl _) (h H1 e)
end
section
variable {P : Program} {w : World} {K : PySem.W.Frag} {mg : Str → Option Value} {base : Heap}
/-- self, state -/
def pSF (C : Addr) (vs : List V) (H : Hp) (R : Rel) : Prop := ∃ (x d : Addr) (p : P') (line : Bool) (room home u t e : Nat) (tl : Tl) (f : SF) (v1 : V), vs = [.ref x, v1] ∧ Td H v1 (intsT [u, t, e]) ∧ SO C H x d p line room home ∧ DAR trD H d f ∧ f [u, t, e] = some tl ∧
  ProgOk p ∧ 1 ≤ room ∧ t < p.length ∧ e ≤ (th p t).length ∧ tl.vis.length ≤ 1000 ∧
  R = fun v H' => ∃ ns : List Nat, (∀ a, a ∈ ns ↔ IsExit (th p t) e a) ∧ ns.length ≤ 16 ∧ Ld (ns.map fun a => trD (nextT p line room tl t a)) v H'
theorem scSF : FnScope ["self", "state", "used", "thread", "entry", "steps", "visits", "exits", "at"] ["self", "state"] (defScope sSF) := ⟨rfl, rfl, rfl, by decide +kernel, rfl, by decide +kernel, by decide +kernel⟩
theorem ok_sf {C : Addr} (T : Txt mg) (W : TSearch K C) (D1 : DefOk P w K mg base "exits_from" ["instructions", "entry"] 2 (SpG pExits)) (M1 : MethOk P w K mg base C "steps_to" ["self", "thread", "at"] 5 (SpG (pSS C)))
    (h : HereM K C "trails_from" "Search.trails_from" sSF ["self", "state"]) : MethOk P w K mg base C "trails_from" ["self", "state"] 6 (SpG (pSF C)) := h.ok fun F => by
  refine F.ok scSF (fun vs H Q E h => ?_) (fun cdv A outer s H vs Q E hr h => ?_)
  · obtain ⟨_, ⟨x, d, p, line, room, home, u, t, e, tl, f, v1, rfl, _⟩, _⟩ := h
    rfl
  · obtain ⟨_, ⟨x, d, p, line, room, home, u, t, e, tl, f, v1, rfl, r1, o, da, hf, ok, hroom, ht, he, hvl, rfl⟩, k⟩ := h
    have nd := scSF.nd
    have hu := hu_of hr
    refine ⟨_, pss_cons (ps_asg (pv 1) (pg_tup (by rfl) (pgs_cons (pg_name (i := 2) nd rfl (.inl rfl)) (pgs_cons (pg_name (i := 3) nd rfl (.inr rfl)) (pgs_cons (pg_name (i := 4) nd rfl (.inl rfl)) pgs_nil)))))
      (pss_cons (ps_asg (pe_dget hu (pfK K (pv 0)) (pv 1) (fun _ _ => rfl)) (pg_tup (by rfl) (pgs_cons (pg_name (i := 5) nd rfl (.inr rfl)) (pgs_cons (pg_name (i := 6) nd rfl (.inr rfl)) pgs_nil))))
      (pss_cons (ps_set (i := 7) nd rfl (Or.inl rfl) (pe_def D1 (hr.mono (by decide)) rfl (pa_cons (pe_ix (ixT K) (pfK K (pv 0)) (pv 3) (fun _ _ => rfl)) (pa_cons (pv 4) pa_nil)) pass0))
      (pss_one (ps_ret (pe_lc (own := [("at", 8)]) (g := gName 8) (tt := tYes) rfl nd (pi_list (pv 7)) (blkOk_by (N := ["self", "state", "used", "thread", "entry", "steps", "visits", "exits", "at"]) (sc := defScope sSF) (by decide +kernel))
        (fun _ _ _ _ _ => pg_name (i := 8) nd rfl (Or.inl rfl)) (fun _ _ _ _ _ => pts_nil)
        (fun _ _ _ _ _ => pe_tup (pa_cons (pe_op op_add (pv 5) (pe_m M1 W.cl hr (pv 0) (pa_cons (pv 3) (pa_cons (pv 8) pa_nil)) pass0)) (pa_cons (pe_op (op_catK K) (pv 6) (pe_tup (pa_cons (pe_tup (pa_cons (pv 3) (pa_cons (pv 8) pa_nil))) pa_nil))) pa_nil)))))))), ?_⟩
    obtain ⟨dx, vP, vB, hx, rP, rB⟩ := o.ex
    refine q_tup3 (d1 := .int (u : Nat)) (d2 := .int (t : Nat)) (d3 := .int (e : Nat)) (evd_var rfl r1) fun y1 y2 y3 H1 e1 s1 s2 s3 => ?_
    rw [s2.int_inv, s3.int_inv]
    refine q_tup2 (d1 := .int (tl.c : Nat)) (d2 := .tuple (tl.vis.map fun q => plD q.1 q.2)) (evd_dgetR (DD := trD) (ev_fld (ev_ref rfl) (e1 _ _ hx) W.cl W.nF rfl) (evd_var rfl (r1.ex e1)) (da.ex e1) hf) fun z1 z2 H2 e2 s4 s5 => ?_
    rw [s4.int_inv]
    have e12 := e1.trans e2
    have hx2 := e12 _ _ hx
    refine q_asgR (evr_call (evds_cons (evd_ix (evd_fld (ev_ref rfl) hx2 W.cl W.nT rfl (rP.ex e12)) (evd_var rfl (.int _)) (prog_at ht)) (evds1 (evd_var rfl (.int _)))) fun ws H3 _ r => ⟨th p t, e, r, ok.short _ (th_mem ht), he, rfl⟩) fun vn H3 e3 ⟨ns, hld, hnl, hns⟩ => ?_
    have e13 := e12.trans e3
    refine s_retR (evld_mL (D := fun n : Nat => PyData.int (n : Int)) (f := fun _ => true) (c := fun a => trD (nextT p line room tl t a)) (evr_var rfl fun H4 e4 => hld.ex e4) (by omega) (fun x => rfl) (fun v a H4 e4 ha hv => evt_yes) (fun v a H4 e4 ha hv _ => ?_)).ld fun v H4 e4 r => k v H4 (e13.trans e4) ⟨ns, hns, hnl, by rw [filter_yes] at r; exact r⟩
    have hex := (hns a).mp ha
    have e14 := e13.trans e4
    have hcost : EvD (tMeth C "steps_to" (SpG (pSS C)) [] E0 (tVar 0) (tCons (tVar 3) (tCons (tVar 8) tNil))) [some (.ref x), some v1, some y1, some (.int (t : Nat)), some (.int (e : Nat)), some (.int (tl.c : Nat)), some z2, some vn, some v] H4 (.int (cost p line room t a : Nat)) :=
      evr_meth (C := C) (ev_ref rfl) (e14 _ _ hx) rfl (evds_cons (evd_var rfl (.int _)) (evds1 (evd_var rfl hv))) fun us H5 e5 r => by
        obtain ⟨w1, w2, rfl, t1, t2⟩ := r.inv2
        exact ⟨x, d, p, line, room, home, t, a, w1, w2, rfl, t1, t2, o.ext (e14.trans e5), ok, hroom, ht, hex.2.1, hex.2.2.1, rfl⟩
    refine evd_tup (ds := [.int ((tl.c + cost p line room t a : Nat) : Int), .tuple ((tl.vis ++ [(t, a)]).map fun q => plD q.1 q.2)]) (evds_cons ((evd_I0 (g := fun i j => i + j) (evd_var rfl (.int _)) hcost).is rfl) (evds1 ((evd_cat (evd_var rfl ((s5.ex e3).ex e4)) (evd_tup (ds := [plD t a]) (evds1 (evd_tup (ds := [.int (t : Nat), .int (a : Nat)]) (evds_cons (evd_var rfl (.int _)) (evds1 (evd_var rfl hv))) (by show 2 ≤ 100000; decide))) (by show 1 ≤ 100000; decide)) ?_).is ?_))) (by show 2 ≤ 100000; decide)
    · rw [List.length_map]; show _ + 1 ≤ _; omega
    · rw [List.map_append]; rfl
/-- self, program, buffers, home, late -/
def spSI (C : Addr) : Sp := fun vs H Q _ => ∃ (x dx : Addr) (p : P') (line : Bool) (room home late : Nat) (v1 v2 v3 v4 : V), vs = [.ref x, v1, v2, v3, v4] ∧ H x = some (.ins C dx []) ∧ Td H v1 (progD p) ∧ Td H v2 (boxD line room) ∧ Td H v3 (.int (home : Int)) ∧ Td H v4 (.int (late : Int)) ∧
  ProgOk p ∧ 1 ≤ room ∧ home < p.length ∧ late < (th p home).length ∧ (ins p home late).isAcc = true ∧
  ∀ H', ExB x H H' → (∃ d f, H d = none ∧ SO C H' x d p line room home ∧ DA trD H' d f ∧ SInv p line room home late (2 ^ p.length) [] f) → Q .non H'
theorem SInv.dom {p : P'} {line : Bool} {room home late U : Nat} {S : List (List Nat)} {f : SF} (h : SInv p line room home late U S f) (hh : home < p.length) (ok : ProgOk p) : DomS f := fun k hk => by
  cases e : f k with
  | none => exact absurd e hk
  | some v =>
    obtain ⟨u, t, x, rfl, h1, h2, h3⟩ := h.key e hh
    have := ok.short _ (th_mem h2)
    exact ⟨u, t, x, rfl, Nat.lt_of_lt_of_le h1 (pow_few ok.few), Nat.lt_of_lt_of_le h2 ok.few, by omega⟩
theorem goS_take {p : P'} {line : Bool} {room u t : Nat} {tl : Tl} {f : SF} {ns : List Nat} {i a : Nat} (h : ns[i]? = some a) : goS p line room u t tl f (ns.take (i + 1)) = enterS p u t a (nextT p line room tl t a) (goS p line room u t tl f (ns.take i)) (List.range p.length) := by
  unfold goS
  rw [List.take_add_one, h, Option.toList_some, List.foldl_append]
  rfl
theorem goS_dom {p : P'} {line : Bool} {room u t : Nat} {tl : Tl} (ok : ProgOk p) (hu : u < 2 ^ p.length) (ns : List Nat) : ∀ {f : SF}, DomS f → DomS (goS p line room u t tl f ns) := by
  induction ns with
  | nil => exact fun h => h
  | cons a r ih => exact fun h => ih (h.enterS ok hu fun o ho => List.mem_range.mp ho)
theorem scSI : FnScope ["self", "program", "buffers", "home", "late", "first", "used", "state", "trail"] ["self", "program", "buffers", "home", "late"] (defScope sSI) := ⟨rfl, rfl, rfl, by decide +kernel, rfl, by decide +kernel, by decide +kernel⟩
theorem ok_si {C : Addr} (T : Txt mg) (W : TSearch K C) (M1 : MethOk P w K mg base C "steps_to" ["self", "thread", "at"] 5 (SpG (pSS C))) (M2 : MethOk P w K mg base C "enter" ["self", "used", "place", "trail"] 4 (spSE C)) (M3 : MethOk P w K mg base C "trails_from" ["self", "state"] 6 (SpG (pSF C)))
    (h : HereI K mg C "Search" "Search.__init__" sSI ["self", "program", "buffers", "home", "late"]) : MakeOk P w K mg base C "Search" ["self", "program", "buffers", "home", "late"] 7 (spSI C) := h.ok fun F => by
  refine F.ok scSI (fun vs H Q E h => ?_) (fun cdv A outer s H vs Q E hr h => ?_)
  · obtain ⟨x, dx, p, line, room, home, late, v1, v2, v3, v4, rfl, _⟩ := h
    rfl
  · obtain ⟨x, dx, p, line, room, home, late, v1, v2, v3, v4, rfl, hx, r1, r2, r3, r4, ok, hroom, hh, hlt, hac, k⟩ := h
    have nd := scSI.nd
    refine ⟨_, pss_cons (ps_fld (pv 0) (pv 1) rfl) (pss_cons (ps_fld (pv 0) (pv 2) rfl) (pss_cons (ps_fld (pv 0) (pv 3) rfl) (pss_cons (ps_fld (pv 0) pe_dnewT rfl)
      (pss_cons (ps_set (i := 5) nd rfl (Or.inl rfl) (pe_m M1 W.cl (hr.mono (by decide)) (pv 0) (pa_cons (pv 3) (pa_cons (pv 4) pa_nil)) pass0))
      (pss_cons (ps_expr (pe_m M2 W.cl (hr.mono (by decide)) (pv 0) (pa_cons (pe_op op_shl pe_int (pv 3)) (pa_cons (pe_tup (pa_cons (pv 3) (pa_cons (pv 4) pa_nil))) (pa_cons (pe_tup (pa_cons (pv 5) (pa_cons (pe_tup (pa_cons (pe_tup (pa_cons (pv 3) (pa_cons (pv 4) pa_nil))) pa_nil)) pa_nil))) pa_nil))) pass0))
      (pss_one (ps_for PassesOwn.never rfl (pi_range1 rfl T.range (pa_cons (pe_op op_shl pe_int (pe_callB call_len_seq (by rfl) T.len PySem.boot_len (pa_cons (pv 1) pa_nil))) pa_nil)) (pg_name (i := 6) nd rfl (.inr rfl))
        (pss_one (ps_for PassesOwn.never rfl (pi_list (pe_lc (own := [("state", 7)]) (g := gName 7) rfl nd (pi_list (pe_callTy (call_list_dT rfl) (by rfl) T.list PyProof.Rows.boot_list (pa_cons (pfK K (pv 0)) pa_nil))) (blkOk_by (N := ["self", "program", "buffers", "home", "late", "first", "used", "state", "trail"]) (sc := defScope sSI) (by decide +kernel))
            (fun _ _ _ _ _ => pg_name (i := 7) nd rfl (Or.inl rfl)) (fun _ _ _ _ _ => pts_one (pt_cmpR op_eq (pe_ix (ixT K) (pv 7) pe_int (fun _ _ => rfl)) (pv 6) (nomark _))) (fun _ _ _ _ _ => pv 7))) (pg_name (i := 7) nd rfl (.inl rfl))
          (pss_one (ps_for PassesOwn.never rfl (pi_list (pe_m M3 W.cl hr (pv 0) (pa_cons (pv 7) pa_nil) pass0)) (pg_name (i := 8) nd rfl (.inl rfl))
            (pss_one (ps_expr (pe_m M2 W.cl (hr.mono (by decide)) (pv 0) (pa_cons (pv 6) (pa_cons (pe_ix (ixT K) (pe_ix (ixT K) (pv 8) pe_int (fun _ _ => rfl)) (pe_un un_neg pe_int) (fun _ _ => rfl)) (pa_cons (pv 8) pa_nil))) pass0)))))))))))))), ?_⟩
    rw [r3.int_inv, r4.int_inv]
    have hfew := ok.few
    have j0 : Jx C H x dx [] H := ⟨ExB.refl _ _, hx⟩
    refine q_fldR (R := fun v H' => v = v1) (evr_var rfl fun _ _ => rfl) rfl hx W.cl W.nT (by show 0 < 1000; decide) fun v H1 e1 ev => ?_
    subst ev
    have j1 := (j0.ext e1).fld (fs' := putF "threads" v [])
    generalize upd H1 x (.ins C dx (putF "threads" v [])) = A1 at j1
    refine q_fldR (R := fun v H' => v = v2) (evr_var rfl fun _ _ => rfl) rfl j1.at' W.cl W.nQ (by show 1 < 1000; decide) fun v' H2 e2 ev => ?_
    subst ev
    have j2 := (j1.ext e2).fld (fs' := putF "queues" v' (putF "threads" v []))
    generalize upd H2 x (.ins C dx (putF "queues" v' (putF "threads" v []))) = A2 at j2
    refine q_fldR (R := fun v H' => v = .int (home : Nat)) (evr_var rfl fun _ _ => rfl) rfl j2.at' W.cl W.nH (by show 2 < 1000; decide) fun v'' H3 e3 ev => ?_
    subst ev
    have j3 := (j2.ext e3).fld (fs' := putF "home" (.int (home : Nat)) (putF "queues" v' (putF "threads" v [])))
    generalize upd H3 x (.ins C dx (putF "home" (.int (home : Nat)) (putF "queues" v' (putF "threads" v [])))) = A3 at j3
    intro d hd
    have hdx : d ≠ x := fun z => by rw [z, j3.at'] at hd; cases hd
    refine ⟨_, rfl, x, C, dx, _, rfl, (by rw [upd_ne hdx.symm]; exact j3.at'), W.cl, W.nF, (by show 3 < 1000; decide), ?_⟩
    have j4 := (j3.ext (Ex.new hd (o := .dT []))).fld (fs' := putF "found" (.ref d) (putF "home" (.int (home : Nat)) (putF "queues" v' (putF "threads" v []))))
    have hdH : H d = none := by
      cases e : H d with
      | none => rfl
      | some o => have := j3.eb _ _ e hdx; rw [hd] at this; cases this
    have hd4 : upd (upd A3 d (.dT [])) x (.ins C dx (putF "found" (.ref d) (putF "home" (.int (home : Nat)) (putF "queues" v' (putF "threads" v []))))) d = some (.dT []) := by rw [upd_ne hdx]; exact upd_same
    generalize upd (upd A3 d (.dT [])) x (.ins C dx (putF "found" (.ref d) (putF "home" (.int (home : Nat)) (putF "queues" v' (putF "threads" v []))))) = A4 at j4 hd4
    have hx4 : A4 x = some (.ins C dx (sFs v v' home d)) := j4.at'
    have R1 : Td A4 v (progD p) := r1.keep (j4.tk hx)
    have R2 : Td A4 v' (boxD line room) := r2.keep (j4.tk hx)
    have so4 : SO C A4 x d p line room home := ⟨dx, v, v', hx4, R1, R2⟩
    have da4 : DA trD A4 d (fun _ => none) := ⟨[], hd4, DF.nil⟩
    -- first
    refine q_asgR (R := Dt (.int (cost p line room home late : Nat))) (evr_meth (C := C) (ev_ref rfl) hx4 rfl (evds_cons (evd_var (d := .int (home : Nat)) rfl (.int _)) (evds1 (evd_var (d := .int (late : Nat)) rfl (.int _)))) fun us H5 e5 r => by
      obtain ⟨w1, w2, rfl, t1, t2⟩ := r.inv2
      exact ⟨x, d, p, line, room, home, home, late, w1, w2, rfl, t1, t2, so4.ext e5, ok, hroom, hh, hlt, hac, rfl⟩) fun vf H5 e5 rf => ?_
    rw [rf.int_inv]
    have da5 := da4.ex e5
    have so5 := so4.ext e5
    refine q_meth (ev_ref rfl) (e5 _ _ hx4) rfl (evds_cons ((evd_I (g := fun i j => i * 2 ^ j.toNat) (i := 1) (j := (home : Nat)) evd_int (evd_var rfl (.int _)) (shl_ok (by omega))).is (by rw [shl_key]))
      (evds_cons (evd_tup (ds := [.int (home : Nat), .int (late : Nat)]) (evds_cons (evd_var rfl (.int _)) (evds1 (evd_var rfl (.int _)))) (by show 2 ≤ 100000; decide))
      (evds1 (evd_tup (ds := [.int (cost p line room home late : Nat), .tuple [plD home late]]) (evds_cons (evd_var rfl (.int _)) (evds1 (evd_tup (ds := [plD home late]) (evds1 (evd_tup (ds := [.int (home : Nat), .int (late : Nat)]) (evds_cons (evd_var rfl (.int _)) (evds1 (evd_var rfl (.int _)))) (by show 2 ≤ 100000; decide))) (by show 1 ≤ 100000; decide)))) (by show 2 ≤ 100000; decide))))) fun us H6 e6 r => ?_
    obtain ⟨w1, w2, w3, rfl, t1, t2, t3⟩ := r.inv3
    refine ⟨x, d, p, line, room, home, 2 ^ home, home, late, ⟨cost p line room home late, [(home, late)]⟩, fun _ => none, w1, w2, w3, rfl, t1, t2, t3, so5.ext e6, da5.ex e6, fun k hk => absurd rfl hk, ok, Nat.pow_lt_pow_right (by decide) hh, hh, hlt, hac, fun H7 e7 da7 => ?_⟩
    have eb7 : ExB d A4 H7 := ((ExB.of e5).trans (ExB.of e6)).trans e7
    have so7 := so4.exb da4 eb7
    have R7 : Td H7 v (progD p) := R1.keep (da4.tk eb7)
    have s7 : SInv p line room home late 0 [] _ := SInv.start
    have lenp : ∀ {σ : L2.St} {H' : Hp}, σ[1]? = some (some v) → Td H' v (progD p) → EvD (tCB (rLenS K) (tCons (tVar 1) tNil)) σ H' (.int (p.length : Nat)) := fun h r => (evd_len (evd_var h r)).is (by rw [List.length_map])
    refine s_forR (n := 2 ^ p.length) (evds1 ((evd_I (g := fun i j => i * 2 ^ j.toNat) (i := 1) (j := (p.length : Nat)) evd_int (lenp rfl R7) (shl_ok hfew)).is (by rw [shl_key]))) (Nat.le_trans (pow_few hfew) (by decide))
      (fun U σ' H' => ∃ f x6 x7 x8, ExB d H7 H' ∧ DA trD H' d f ∧ SInv p line room home late U [] f ∧ σ' = [some (.ref x), some v, some v', some (.int (home : Nat)), some (.int (late : Nat)), some (.int (cost p line room home late : Nat)), x6, x7, x8])
      (fun H8 e8 => ⟨_, _, _, _, ExB.of e8, da7.ex e8, s7, rfl⟩) (fun U σ' H' hU ⟨f, x6, x7, x8, eb, da', si, es⟩ => ?_) (fun σ' H' ⟨f, x6, x7, x8, eb, da', si, es⟩ => ?_)
    · subst es
      have dom := si.dom hh ok
      have so' := so7.exb da7 eb
      obtain ⟨dx', vP', vB', hx', rP', rB'⟩ := so'.ex
      refine s_forV (R := fun v H' => ∃ ks : List (List Nat), Ld (ks.map intsT) v H' ∧ ∀ k, k ∈ ks ↔ f k ≠ none ∧ k.head? = some U) (evr_lcV (evr_listT (DD := trD) (ev_fld (ev_ref rfl) hx' W.cl W.nF rfl) da' (fun k hk => by
          obtain ⟨u, t, e, rfl, _⟩ := dom k hk
          show 3 ≤ 100; decide) (fun kvs H2 _ _ F => Nat.le_trans (dom.len F) (by decide))) fun lv H8 e8 ⟨ks, hld, hkl, hks⟩ => ?_) fun lv H8 e8 ⟨ks, hld, hks⟩ => ?_
      · refine (evld_mL (D := intsT) (c := intsT) (f := fun k => decide (k.head? = some U)) (evr_val fun H9 e9 => hld.ex e9) hkl (fun x => rfl) (fun y kk H9 e9 hkk hy => ?_) (fun y kk H9 e9 hkk hy _ => evd_var rfl hy)).ld.imp fun y H9 _ r => ⟨ks.filter fun k => decide (k.head? = some U), r, fun kk => ?_⟩
        · obtain ⟨u, t, e, rfl, _⟩ := dom kk ((hks kk).mp hkk)
          refine et_is (evt_B (evd_eqI (evd_ix (evd_var rfl hy) evd_int atI_0) (evd_var (d := .int (U : Nat)) rfl (.int _)))) (decide_eq_decide.mpr ⟨fun h => ?_, fun h => ?_⟩)
          · show some u = some U
            rw [Int.ofNat.inj h]
          · rw [Option.some.inj h]
        · rw [List.mem_filter, hks, decide_eq_true_iff]
      · have da8 := da'.ex e8
        have so8 := so'.ext e8
        obtain ⟨kv8, hd8, _⟩ := id da8
        have hkU : ∀ kk ∈ ks, ∃ t e tl, kk = [U, t, e] ∧ f [U, t, e] = some tl ∧ t < p.length ∧ e < (th p t).length := fun kk hkk => by
          obtain ⟨h1, h2⟩ := (hks kk).mp hkk
          cases ev : f kk with
          | none => exact absurd ev h1
          | some tl =>
            obtain ⟨u, t, e, rfl, _, h3, h4⟩ := si.key ev hh
            have : u = U := Option.some.inj h2
            subst this
            exact ⟨t, e, tl, rfl, ev, h3, h4⟩
        refine for_ld hld (fun L vs i σ' H' => H' L = some (.lst vs) ∧ TdAll H' vs (ks.map intsT) ∧ ExB d H8 H' ∧ (∃ fi, DA trD H' d fi ∧ SInv p line room home late U (ks.take i).reverse fi ∧ ∀ t e, fi [U, t, e] = f [U, t, e]) ∧ ∃ x7 x8, σ' = [some (.ref x), some v, some v', some (.int (home : Nat)), some (.int (late : Nat)), some (.int (cost p line room home late : Nat)), some (.int (U : Nat)), x7, x8])
          (fun L vs _ hL hvs => ⟨hL, hvs, ExB.refl _ _, ⟨f, da8, si, fun _ _ => rfl⟩, _, _, rfl⟩) (fun L vs i σ' H' ⟨a, b, _⟩ => ⟨a, b⟩) (fun L vs i sv dd σ' H' hi hs ⟨hL, hvs, eb8, ⟨fi, dai, sii, hfi⟩, x7, x8, es⟩ => ?_) (fun L vs σ' H' ⟨hL, hvs, eb8, ⟨fi, dai, sii, hfi⟩, x7, x8, es⟩ => ?_)
        · subst es
          rw [List.getElem?_map] at hi
          obtain ⟨kk, hkk, rfl⟩ := Option.map_eq_some_iff.mp hi
          obtain ⟨t0, e0, tl, rfl, hf, ht0, he0⟩ := hkU kk (List.mem_of_getElem? hkk)
          have hfi0 : fi [U, t0, e0] = some tl := (hfi t0 e0).trans hf
          have soi := so8.exb da8 eb8
          obtain ⟨dxi, vPi, vBi, hxi, rPi, rBi⟩ := soi.ex
          obtain ⟨kvi, hdi, _⟩ := id dai
          have hvl := sii.vis hfi0
          have hU64 : U < 64 := Nat.lt_of_lt_of_le hU (pow_few hfew)
          refine s_forV (R := fun v H' => ∃ ns : List Nat, (∀ a, a ∈ ns ↔ IsExit (th p t0) e0 a) ∧ ns.length ≤ 16 ∧ Ld (ns.map fun a => trD (nextT p line room tl t0 a)) v H') (evr_meth (C := C) (ev_ref rfl) hxi rfl (evds1 (evd_var rfl hs)) fun us H9 e9 r => by
            obtain ⟨w1, rfl, t1⟩ := r.inv1
            exact ⟨x, d, p, line, room, home, U, t0, e0, tl, fi, w1, rfl, t1, soi.ext e9, (dai.ex e9).rd, hfi0, ok, hroom, ht0, Nat.le_of_lt he0, by omega, rfl⟩) fun lv2 H9 e9 ⟨ns, hns, hnl, hld2⟩ => ?_
          have da9 := dai.ex e9
          have so9 := soi.ext e9
          obtain ⟨kv9, hd9, _⟩ := id da9
          refine for_ld hld2 (fun L2 vs2 j σ' H' => H' L2 = some (.lst vs2) ∧ TdAll H' vs2 (ns.map fun a => trD (nextT p line room tl t0 a)) ∧ ExB d H9 H' ∧ DA trD H' d (goS p line room U t0 tl fi (ns.take j)) ∧ ∃ x8, σ' = [some (.ref x), some v, some v', some (.int (home : Nat)), some (.int (late : Nat)), some (.int (cost p line room home late : Nat)), some (.int (U : Nat)), some sv, x8])
            (fun L2 vs2 _ hL2 hvs2 => ⟨hL2, hvs2, ExB.refl _ _, da9, _, rfl⟩) (fun L2 vs2 i σ' H' ⟨a, b, _⟩ => ⟨a, b⟩) (fun L2 vs2 j tv dd σ' H' hj htv ⟨hL2, hvs2, eb9, daj, x8, es⟩ => ?_) (fun L2 vs2 σ' H' ⟨hL2, hvs2, eb9, daj, x8, es⟩ => ?_)
          · subst es
            rw [List.getElem?_map] at hj
            obtain ⟨a, ha, rfl⟩ := Option.map_eq_some_iff.mp hj
            have hex := (hns a).mp (List.mem_of_getElem? ha)
            have soj := so9.exb da9 eb9
            obtain ⟨dxj, vPj, vBj, hxj, rPj, rBj⟩ := soj.ex
            obtain ⟨kvj, hdj, _⟩ := id daj
            refine s_meth (ev_ref rfl) hxj rfl (evds_cons (evd_var (d := .int (U : Nat)) rfl (.int _)) (evds_cons (evd_ix (d := plD t0 a) (evd_ix (ds := [.int ((tl.c + cost p line room t0 a : Nat) : Int), .tuple ((tl.vis ++ [(t0, a)]).map fun q : Nat × Nat => plD q.1 q.2)]) (evd_var rfl htv) evd_int atI_1) (evd_neg evd_int) (by rw [List.map_append]; exact atI_last)) (evds1 (evd_var rfl htv)))) fun us HA eA r => ?_
            obtain ⟨w1, w2, w3, rfl, t1, t2, t3⟩ := r.inv3
            refine ⟨x, d, p, line, room, home, U, t0, a, nextT p line room tl t0 a, goS p line room U t0 tl fi (ns.take j), w1, w2, w3, rfl, t1, t2, t3, soj.ext eA, daj.ex eA, goS_dom ok hU _ (sii.dom hh ok), ok, hU, ht0, hex.2.1, hex.2.2.1, fun HB eB daB => ?_⟩
            have ebB : ExB d H' HB := (ExB.of eA).trans eB
            exact ⟨ebB _ _ hL2 (ne_of hL2 hdj (by intro z; cases z)), hvs2.keep (daj.tk ebB), eb9.trans ebB, daB.is (goS_take ha).symm, _, rfl⟩
          · subst es
            rw [List.length_map, List.take_length] at daj
            have ebF : ExB d _ H' := (ExB.of e9).trans eb9
            refine ⟨ebF _ _ hL (ne_of hL hdi (by intro z; cases z)), hvs.keep (dai.tk ebF), eb8.trans ebF, ⟨_, daj, ?_, fun t e => (goS_low (Nat.le_refl _) ns fi).trans (hfi t e)⟩, _, _, rfl⟩
            have := sii.go (fun k hk => by
              obtain ⟨t, e, _, h1, _⟩ := hkU k (List.mem_of_mem_take (List.mem_reverse.mp hk))
              exact ⟨t, e, h1⟩) hfi0 hns
            rw [List.take_add_one, hkk, Option.toList_some, List.reverse_append]
            exact this
        · rw [List.length_map, List.take_length] at sii
          refine ⟨fi, _, _, _, (eb.trans (ExB.of e8)).trans eb8, dai, sii.next fun t e hne => ?_, es⟩
          rw [List.mem_reverse, hks]
          rw [hfi] at hne
          exact ⟨hne, rfl⟩
    · subst es
      refine k H' (fun a o ha hne => ?_) ⟨d, f, hdH, so7.exb da7 eb, da', si⟩
      have had : a ≠ d := ne_of_none ha hdH
      exact eb _ _ (eb7 _ _ (j4.eb a o ha hne) had) had
end
end RFW
end

section
set_option Elab.async false
set_option linter.all false
set_option maxRecDepth 100000
set_option maxHeartbeats 4000000
/-! tearing: Search's trails_to. -/
namespace RFW
open PySem L2 Evl RF
/-- few enough for the lists of trails -/
structure ProgSm (p : P') : Prop extends ProgOk p where
  few5 : p.length ≤ 5
  short10 : ∀ t ∈ p, t.length ≤ 10
section
variable {K : PySem.W.Frag} {σ : L2.St} {H H0 : Hp} {ta tb te : TE} {tz : TS} {D : Ends} {d1 : PyData} {ds out : List PyData} {R : Rel} {l : Addr}
theorem q_tupDL {i j : Nat} (h1 : EvD ta σ H d1) (h2 : ∀ H1, Ex H H1 → EvLd tb σ H1 ds) (k : ∀ v1 p H1, Ex H H1 → Td H1 v1 d1 → Gr H p ds H1 → tz D ((σ.set i (some v1)).set j (some (.ref p))) H1) :
    tSeq (tAsg (tTup (tCons ta (tCons tb tNil))) (gTup K 2 (gCons (gName i) (gCons (gName j) gNil)))) tz D σ H :=
  h1 H (Ex.refl H) _ fun v1 H1 e1 r1 => h2 H1 e1 H1 (Ex.refl H1) _ fun p vs H2 hp e2 hl hz r => ⟨by show 2 ≤ sizeLine; decide, fun q hq => by
    have e3 : Ex H2 (upd H2 q (.tup [v1, .ref p])) := Ex.new hq
    exact ⟨q, _, rfl, SqT.of upd_same, rfl, _, _, rfl, _, _, rfl, rfl, k v1 p _ ((e1.trans e2).trans e3) ((r1.ex e2).ex e3) ⟨fresh_back e1 hp, (e1.trans e2).trans e3, vs, e3 _ _ hl, r.ex e3⟩⟩⟩
/-- l.extend(e) -/
theorem s_extD (g : Gr H0 l out H) (ha : σ[i]? = some (some (.ref l))) (h : EvR te σ H R) (k : ∀ v H1, Ex H H1 → R v H1 → ∃ es, Ld es v H1 ∧ out.length + es.length ≤ sizeLine ∧ ∀ H2, Gr H0 l (out ++ es) H2 → TK H1 H2 → ExB l H1 H2 → D.nx σ H2) :
    tDrop (tBM K "list" rExtend (tVar i) (tCons te tNil)) D σ H := by
  obtain ⟨a, b, vs, c, r⟩ := g
  refine ⟨_, ha, Or.inl ⟨rfl, vs, sq_of c⟩, h H (Ex.refl H) _ fun v H2 e2 hv => ?_⟩
  obtain ⟨es, ⟨q, ws, ev, hq, _, rw'⟩, hz, k⟩ := k v H2 e2 hv
  subst ev
  have kk : TK H2 (upd H2 l (.lst (vs ++ ws))) := TK.lst (e2 _ _ c)
  refine ⟨l, q, vs, ws, rfl, rfl, e2 _ _ c, hq, by rw [r.length, rw'.length]; exact hz, k _ ?_ kk ExB.upd⟩
  exact ⟨a, Ex.mut (b.trans e2) a, _, upd_same, ((r.ex e2).keep kk).append (rw'.keep kk)⟩
theorem s_extV {xs : List V} (hl : H l = some (.lst xs)) (ha : σ[i]? = some (some (.ref l))) (h : EvR te σ H R) (k : ∀ v H1, Ex H H1 → R v H1 → ∃ q ws, v = .ref q ∧ H1 q = some (.lst ws) ∧ xs.length + ws.length ≤ sizeLine ∧ D.nx σ (upd H1 l (.lst (xs ++ ws)))) :
    tDrop (tBM K "list" rExtend (tVar i) (tCons te tNil)) D σ H := ⟨_, ha, Or.inl ⟨rfl, xs, sq_of hl⟩, h H (Ex.refl H) _ fun v H2 e2 hv => by
  obtain ⟨q, ws, ev, hq, hz, kk⟩ := k v H2 e2 hv
  subst ev
  exact ⟨l, q, xs, ws, rfl, rfl, e2 _ _ hl, hq, hz, kk⟩⟩
end
structure SearchAt (C : Addr) (H : Hp) (x : Addr) (p : P') (line : Bool) (room home late : Nat) : Prop where
  ex : ∃ d f, SO C H x d p line room home ∧ DA trD H d f ∧ SInv p line room home late (2 ^ p.length) [] f
theorem sm_len {p : P'} {line : Bool} {room home late U : Nat} {S : List (List Nat)} {f : SF} (h : SInv p line room home late U S f) (hh : home < p.length) (sm : ProgSm p) {R : V → Tl → Prop} {kvs : List (List Key × V)} (F : DF R kvs f) : kvs.length ≤ 1600 := by
  have key : ∀ k, f k ≠ none → ∃ u t e, k = [u, t, e] ∧ u < 32 ∧ t < 5 ∧ e < 10 := fun k hk => by
    cases e : f k with
    | none => exact absurd e hk
    | some v =>
      obtain ⟨u, t, x, rfl, h1, h2, h3⟩ := h.key e hh
      have h4 := sm.short10 _ (th_mem h2)
      have h5 := sm.few5
      have h6 : 2 ^ p.length ≤ 2 ^ 5 := Nat.pow_le_pow_right (by decide) h5
      exact ⟨u, t, x, rfl, by omega, by omega, by omega⟩
  refine F.few (fun k => match k with | [u, t, e] => u * 50 + t * 10 + e | _ => 0) 1600 (fun k hk => ?_) (fun j k hj hk e => ?_)
  · obtain ⟨u, t, e, rfl, h1, h2, h3⟩ := key k hk
    show u * 50 + t * 10 + e < 1600
    omega
  · obtain ⟨u, t, x, rfl, h1, h2, h3⟩ := key k hk
    obtain ⟨u', t', x', rfl, h4, h5, h6⟩ := key j hj
    have e : u' * 50 + t' * 10 + x' = u * 50 + t * 10 + x := e
    have e1 : u' = u := by omega
    have e2 : t' = t := by omega
    have e3 : x' = x := by omega
    rw [e1, e2, e3]
section
variable {P : Program} {w : World} {K : PySem.W.Frag} {mg : Str → Option Value} {base : Heap}
/-- self, early -/
def pTT (C : Addr) (vs : List V) (H : Hp) (R : Rel) : Prop := ∃ (x : Addr) (p : P') (line : Bool) (room home late early : Nat) (v1 : V), vs = [.ref x, v1] ∧ Td H v1 (.int (early : Int)) ∧ SearchAt C H x p line room home late ∧ ProgSm p ∧ 1 ≤ room ∧ home < p.length ∧ early < (th p home).length ∧ (ins p home early).isAcc = true ∧
  R = fun v H' => ∃ tls : List Tl, Ld (tls.map trD) v H' ∧ tls.length ≤ 25600 ∧ (∀ tl ∈ tls, Route p line room (home, early, late) tl.c) ∧ ∀ c, Route p line room (home, early, late) c → ∃ tl ∈ tls, tl.c ≤ c
theorem scST : FnScope ["self", "early", "goal", "found", "state", "trail"] ["self", "early"] (defScope sST) := ⟨rfl, rfl, rfl, by decide +kernel, rfl, by decide +kernel, by decide +kernel⟩
theorem ok_st {C : Addr} (T : Txt mg) (W : TSearch K C) (D1 : DefOk P w K mg base "meets" ["program", "one", "other"] 2 (SpD fMeets)) (M1 : MethOk P w K mg base C "trails_from" ["self", "state"] 6 (SpG (pSF C)))
    (h : HereM K C "trails_to" "Search.trails_to" sST ["self", "early"]) : MethOk P w K mg base C "trails_to" ["self", "early"] 7 (SpG (pTT C)) := h.ok fun F => by
  refine F.ok scST (fun vs H Q E h => ?_) (fun cdv A outer s H vs Q E hr h => ?_)
  · obtain ⟨_, ⟨x, p, line, room, home, late, early, v1, rfl, _⟩, _⟩ := h
    rfl
  · obtain ⟨_, ⟨x, p, line, room, home, late, early, v1, rfl, r1, sa, sm, hroom, hh, he, hac, rfl⟩, k⟩ := h
    obtain ⟨d, f, so, da, si⟩ := sa.ex
    have ok : ProgOk p := sm.toProgOk
    have dom := si.dom hh ok
    have nd := scST.nd
    refine ⟨_, pss_cons (ps_asg (pe_tup (pa_cons (pe_tup (pa_cons (pfK K (pv 0)) (pa_cons (pv 1) pa_nil))) (pa_cons (pe_lst pa_nil) pa_nil))) (pg_tup (by rfl) (pgs_cons (pg_name (i := 2) nd rfl (.inr rfl)) (pgs_cons (pg_name (i := 3) nd rfl (.inl rfl)) pgs_nil))))
      (pss_cut (ps_lock (ps_for PassesOwn.never rfl (pi_keys (pfK K (pv 0))) (pg_name (i := 4) nd rfl (.inl rfl))
        (pss_one (ps_expr (pe_bm PySem.F.plainAttrs_list PySem.F.slot_list_extend PySem.F.type_list_extend mt_extend (pv 3) (pa_cons
          (pe_lc (own := [("trail", 5)]) (g := gName 5) rfl nd (pi_list (pe_m M1 W.cl hr (pv 0) (pa_cons (pv 4) pa_nil) pass0)) (blkOk_by (N := ["self", "early", "goal", "found", "state", "trail"]) (sc := defScope sST) (by decide +kernel))
            (fun _ _ _ _ _ => pg_name (i := 5) nd rfl (Or.inl rfl)) (fun _ _ _ _ _ => pts_one (pt_val (pe_def D1 (hr.mono (by decide)) rfl (pa_cons (pfK K (pv 0)) (pa_cons (pe_ix (ixT K) (pe_ix (ixT K) (pv 5) pe_int (fun _ _ => rfl)) (pe_un un_neg pe_int) (fun _ _ => rfl)) (pa_cons (pv 2) pa_nil))) pass0))) (fun _ _ _ _ _ => pv 5)) pa_nil))))))
      (pss_one (ps_ret (pv 3)))), ?_⟩
    obtain ⟨dx, vP, vB, hx, rP, rB⟩ := so.ex
    refine q_tupDL (ds := []) (evd_tup (ds := [.int (home : Nat), .int (early : Nat)]) (evds_cons (evd_fld (ev_ref rfl) hx W.cl W.nH rfl (.int _)) (evds1 (evd_var rfl r1))) (by show 2 ≤ 100000; decide)) (fun H1 e1 => evld_lst evds_nil (by decide)) fun vg L H1 e1 rg g1 => ?_
    have rg : Td H1 vg (plD home early) := rg
    have hx1 := e1 _ _ hx
    have so1 := so.ext e1
    obtain ⟨kvs, hd1, F1⟩ := da.ex e1
    have hkl := sm_len si hh sm F1
    have hxd : x ≠ d := ne_of hx1 hd1 (by intro z; cases z)
    refine q_cut (M := fun σ' H2 => ∃ tls : List Tl, Ex H H2 ∧ Gr H L (tls.map trD) H2 ∧ tls.length ≤ 25600 ∧ (∀ tl ∈ tls, Route p line room (home, early, late) tl.c) ∧ (∀ c, Route p line room (home, early, late) c → ∃ tl ∈ tls, tl.c ≤ c) ∧ ∃ x4 x5, σ' = [some (.ref x), some v1, some vg, some (.ref L), x4, x5]) ?_ fun σ' H2 ⟨tls, e2, g2, hl2, ht1, ht2, x4, x5, es⟩ => ?_
    · refine ⟨d, .dT kvs, hd1, trivial, fun od => ?_⟩
      -- the dict is locked
      have exf : ∀ a o, H1 a = some o → a ≠ d → upd H1 d (.frz od (.dT kvs)) a = some o := fun a o ha hn => by rw [upd_ne hn]; exact ha
      have tkf : TK H1 (upd H1 d (.frz od (.dT kvs))) := TK.dT hd1
      have hfz : upd H1 d (.frz od (.dT kvs)) d = some (.frz od (.dT kvs)) := upd_same
      have hLd : L ≠ d := by
        obtain ⟨_, _, vs, hL, _⟩ := g1
        exact ne_of hL hd1 (by intro z; cases z)
      generalize hHf : upd H1 d (.frz od (.dT kvs)) = Hf at exf tkf hfz
      have hxf : Hf x = some (.ins C dx (sFs vP vB home d)) := exf _ _ hx1 hxd
      have darf : DAR trD Hf d f := ⟨kvs, .inr ⟨od, hfz⟩, F1.imp fun v y r => r.keep tkf⟩
      have sof : SO C Hf x d p line room home := ⟨dx, vP, vB, hxf, (rP.ex e1).keep tkf, (rB.ex e1).keep tkf⟩
      have rgf : Td Hf vg (plD home early) := rg.keep tkf
      have gf : ∃ vs, Hf L = some (.lst vs) ∧ TdAll Hf vs [] := by
        obtain ⟨_, _, vs, hL, hr⟩ := g1
        exact ⟨vs, exf _ _ hL hLd, hr.keep tkf⟩
      -- the list is the one thing that changes
      let Pv : Nat → L2.St → Hp → Prop := fun i σ' H' => ∃ tls : List Tl, ExB L Hf H' ∧ (∃ vs, H' L = some (.lst vs) ∧ TdAll H' vs (tls.map trD)) ∧ tls.length ≤ 16 * i ∧ (∀ tl ∈ tls, Route p line room (home, early, late) tl.c) ∧
        (∀ j u t e tl, j < i → (kvs[j]?).map (·.1) = some (kI [u, t, e]) → f [u, t, e] = some tl → ∀ a, IsExit (th p t) e a → (ins p t a).meets (ins p home early) = true → nextT p line room tl t a ∈ tls) ∧ ∃ x4 x5, σ' = [some (.ref x), some v1, some vg, some (.ref L), x4, x5]
      have tkL : ∀ {H' : Hp}, ExB L Hf H' → TK Hf H' := fun eb a xs ha => eb a _ ha fun z => by
        obtain ⟨vs, hL, _⟩ := gf
        rw [z, hL] at ha; cases ha
      refine ⟨_, rfl, x, C, dx, _, .ref d, rfl, hxf, W.cl, W.nF, rfl, d, od, rfl, .inr ⟨kvs, hfz, ?_⟩⟩
      refine for_it walk_keysT Pv ⟨[], ExB.refl _ _, gf, Nat.zero_le _, fun _ h => (by cases h), fun j _ _ _ _ hj => absurd hj (Nat.not_lt_zero _), _, _, rfl⟩ (fun i σ' H' _ ⟨tls, eb, _⟩ => eb _ _ hfz hLd.symm) (fun i xk σ' H' H'' hi ⟨tls, eb, ⟨vs, hL, hvs⟩, hl, ht1, ht2, x4, x5, es⟩ hy => ?_) (fun σ' H' ⟨tls, eb, ⟨vs, hL, hvs⟩, hl, ht1, ht2, x4, x5, es⟩ => ?_)
      · obtain ⟨eH, kk, vv, q, hkv, rfl, hq⟩ := hy
        subst eH es
        obtain ⟨k3, hk3, hf3⟩ := F1.ks (kk, vv) (List.mem_of_getElem? hkv)
        have hk3 : kk = kI k3 := hk3
        subst hk3
        obtain ⟨u, t, e, rfl, hu64, ht6, he16⟩ := dom k3 hf3
        obtain ⟨tl, hf⟩ : ∃ tl, f [u, t, e] = some tl := by
          cases e' : f [u, t, e] with
          | none => exact absurd e' hf3
          | some tl => exact ⟨tl, rfl⟩
        obtain ⟨u2, t2, x2, ek, hu2, ht2', he2⟩ := si.key hf hh
        obtain ⟨ek1, ek2⟩ : t = t2 ∧ e = x2 := ⟨(List.cons.inj (List.cons.inj ek).2).1, (List.cons.inj (List.cons.inj (List.cons.inj ek).2).2).1⟩
        subst ek1 ek2
        have hvl := si.vis hf
        have tk := tkL eb
        have hfz' := eb _ _ hfz hLd.symm
        have dar' : DAR trD H'' d f := by
          obtain ⟨kv, hk, hF⟩ := darf
          exact ⟨kvs, .inr ⟨od, hfz'⟩, F1.imp fun v y r => (r.keep tkf).keep tk⟩
        have hxL : x ≠ L := by
          obtain ⟨vs', hL', _⟩ := gf
          exact ne_of hxf hL' (by intro z; cases z)
        have hx' := eb _ _ hxf hxL
        have so' : SO C H'' x d p line room home := ⟨dx, vP, vB, hx', ((rP.ex e1).keep tkf).keep tk, ((rB.ex e1).keep tkf).keep tk⟩
        have hkey : Td H'' (.ref q) (intsT [u, t, e]) := by
          have := td_key hq (by show 3 ≤ 100000; decide)
          rw [keysD_kI] at this
          exact this
        have hlen := hvs.length
        rw [List.length_map] at hlen
        refine s_extV (R := fun v H' => ∃ ns : List Nat, (∀ a, a ∈ ns ↔ IsExit (th p t) e a) ∧ ns.length ≤ 16 ∧ Ld ((ns.filter fun a => (ins p t a).meets (ins p home early)).map fun a => trD (nextT p line room tl t a)) v H') hL rfl (evr_lcV (evr_meth (C := C) (R := fun v H' => ∃ ns : List Nat, (∀ a, a ∈ ns ↔ IsExit (th p t) e a) ∧ ns.length ≤ 16 ∧ Ld (ns.map fun a => trD (nextT p line room tl t a)) v H') (ev_ref rfl) hx' rfl (evds1 (evd_var rfl hkey)) fun us H9 e9 r => by
          obtain ⟨w1, rfl, t1⟩ := r.inv1
          exact ⟨x, d, p, line, room, home, u, t, e, tl, f, w1, rfl, t1, so'.ext e9, dar'.ex e9, hf, ok, hroom, ht2', Nat.le_of_lt he2, by omega, rfl⟩) fun lv H9 e9 ⟨ns, hns, hnl, hld⟩ => ?_) (fun v H9 e9 ⟨ns, hns, hnl, hld⟩ => ?_)
        · refine (evld_mL (D := fun a => trD (nextT p line room tl t a)) (c := fun a => trD (nextT p line room tl t a)) (f := fun a => (ins p t a).meets (ins p home early)) (evr_val fun H10 e10 => hld.ex e10) (by omega) (fun x => rfl) (fun y a H10 e10 ha hy => ?_) (fun y a H10 e10 ha hy _ => evd_var rfl hy)).ld.imp fun y H10 _ r => ⟨ns, hns, hnl, r⟩
          have hex := (hns a).mp ha
          have e910 := e9.trans e10
          exact evt_B (evd_call (evds_cons (evd_fld (ev_ref rfl) (e910 _ _ hx') W.cl W.nT rfl (((((rP.ex e1).keep tkf).keep tk)).ex e910)) (evds_cons (evd_ix (d := plD t a) (evd_ix (ds := [.int ((tl.c + cost p line room t a : Nat) : Int), .tuple ((tl.vis ++ [(t, a)]).map fun q : Nat × Nat => plD q.1 q.2)]) (evd_var rfl hy) evd_int atI_1) (evd_neg evd_int) (by rw [List.map_append]; exact atI_last)) (evds1 (evd_var rfl ((rgf.keep tk).ex e910)))))
            ⟨p, t, a, home, early, rfl, ht2', hex.2.1, hh, he, hex.2.2.1, hac, rfl⟩)
        · obtain ⟨q2, ws, ev, hq2, hwz, hws⟩ := hld
          have hwl := hws.length
          rw [List.length_map] at hwl
          have hfl : (ns.filter fun a => (ins p t a).meets (ins p home early)).length ≤ 16 := Nat.le_trans (List.length_filter_le _ _) hnl
          have hLn := e9 _ _ hL
          refine ⟨q2, ws, ev, hq2, ?_, ?_⟩
          · have : (25600 : Nat) + 16 ≤ sizeLine := by decide
            have h1 : tls.length ≤ 16 * 1600 := Nat.le_trans hl (Nat.mul_le_mul_left 16 (by omega))
            omega
          have kkL : TK H9 (upd H9 L (.lst (vs ++ ws))) := TK.lst hLn
          refine ⟨tls ++ (ns.filter fun a => (ins p t a).meets (ins p home early)).map (nextT p line room tl t), (eb.trans (ExB.of e9)).trans ExB.upd, ⟨_, upd_same, ?_⟩, ?_, fun y hy => ?_, fun j u' t' e' tl' hj hkj hf' a hex hm => ?_, _, _, rfl⟩
          · rw [List.map_append, List.map_map]
            exact ((hvs.ex e9).keep kkL).append (hws.keep kkL)
          · rw [List.length_append, List.length_map]; omega
          · rcases List.mem_append.mp hy with hy | hy
            · exact ht1 y hy
            · obtain ⟨a, ha, rfl⟩ := List.mem_map.mp hy
              obtain ⟨h1, h2⟩ := List.mem_filter.mp ha
              exact si.route hf ((hns a).mp h1) h2
          · rcases Nat.lt_succ_iff_lt_or_eq.mp hj with h1 | rfl
            · exact List.mem_append_left _ (ht2 j u' t' e' tl' h1 hkj hf' a hex hm)
            · rw [hkv] at hkj
              have h2 := kI_inj (Option.some.inj hkj)
              obtain ⟨h3, h4, h5⟩ : u = u' ∧ t = t' ∧ e = e' := ⟨(List.cons.inj h2).1, (List.cons.inj (List.cons.inj h2).2).1, (List.cons.inj (List.cons.inj (List.cons.inj h2).2).2).1⟩
              subst h3 h4 h5
              rw [hf] at hf'; cases hf'
              exact List.mem_append_right _ (List.mem_map.mpr ⟨a, List.mem_filter.mpr ⟨(hns a).mpr hex, hm⟩, rfl⟩)
      · subst es
        refine ⟨eb _ _ hfz hLd.symm, tls, fun a o ha => ?_, ?_, Nat.le_trans hl (Nat.mul_le_mul_left 16 hkl), ht1, fun c hc => ?_, _, _, rfl⟩
        · -- what stood stands
          have ha1 := e1 _ _ ha
          by_cases had : a = d
          · subst had
            rw [upd_same, ← hd1]
            exact ha1
          · rw [upd_ne had]
            exact eb _ _ (exf _ _ ha1 had) (ne_of_none ha g1.1)
        · have hkd : TK H' (upd H' d (.dT kvs)) := TK.upd fun xs z => by rw [eb _ _ hfz hLd.symm] at z; cases z
          refine ⟨g1.1, fun a o ha => ?_, vs, by rw [upd_ne hLd]; exact hL, hvs.keep hkd⟩
          have ha1 := e1 _ _ ha
          by_cases had : a = d
          · subst had
            rw [upd_same, ← hd1]
            exact ha1
          · rw [upd_ne had]
            exact eb _ _ (exf _ _ ha1 had) (ne_of_none ha g1.1)
        · obtain ⟨u, t, e, tl, a, h1, h2, h3, h4⟩ := si.best hh hc
          obtain ⟨v, hv, _⟩ := F1.val h1
          have hmem := valV_in hv
          obtain ⟨kv, hkv, ekv⟩ := List.mem_map.mp hmem
          obtain ⟨j, hj, hjk⟩ := List.getElem_of_mem hkv
          exact ⟨_, ht2 j u t e tl hj (by rw [List.getElem?_eq_getElem hj, hjk]; exact congrArg some ekv) h1 a h2 h3, h4⟩
    · subst es
      have hz : (tls.map trD).length ≤ 100000 := by rw [List.length_map]; omega
      exact s_retR (R := fun v H' => v = .ref L) (evr_var rfl fun _ _ => rfl) fun v H3 e3 ev => by
        subst ev
        exact k _ H3 (e2.trans e3) ⟨tls, (g2.ld hz).ex e3, hl2, ht1, ht2⟩
end
end RFW
end

section
set_option Elab.async false
set_option linter.all false
set_option maxRecDepth 100000
set_option maxHeartbeats 4000000
/-! tearing: best_trail, fewest_steps. -/
namespace RFW
open PySem L2 Evl RF
abbrev sBest : Stmt := top 26
abbrev sFew : Stmt := top 27
/-! ### the fewest steps exist, and are one -/
theorem least_ex {Q : Nat → Prop} : ∀ n, Q n → ∃ m, Q m ∧ ∀ k, Q k → m ≤ k := fun n => by
  induction n using Nat.strongRecOn with
  | ind n ih =>
    intro hn
    by_cases h : ∃ k, k < n ∧ Q k
    · obtain ⟨k, hk, hq⟩ := h
      exact ih k hk hq
    · exact ⟨n, hn, fun k hk => Nat.le_of_not_lt fun hlt => h ⟨k, hlt, hk⟩⟩
theorem fewest_ex (p : P') (line : Bool) (room : Nat) : ∃ r, Fewest p line room r := by
  by_cases h : ∃ c q, q ∈ loose p line room ∧ Route p line room q c
  · obtain ⟨c, hc⟩ := h
    obtain ⟨m, hm, hl⟩ := least_ex (Q := fun c => ∃ q, q ∈ loose p line room ∧ Route p line room q c) c hc
    exact ⟨some m, hm, fun q c hq hr => hl c ⟨q, hq, hr⟩⟩
  · exact ⟨none, fun q hq ⟨c, hc⟩ => h ⟨c, q, hq, hc⟩⟩
theorem fewest_one {p : P'} {line : Bool} {room : Nat} {r r' : Option Nat} (h : Fewest p line room r) (h' : Fewest p line room r') : r = r' := by
  cases r with
  | none =>
    cases r' with
    | none => rfl
    | some m =>
      obtain ⟨⟨q, hq, hr⟩, _⟩ := h'
      exact absurd ⟨m, hr⟩ (h q hq)
  | some n =>
    cases r' with
    | none =>
      obtain ⟨⟨q, hq, hr⟩, _⟩ := h
      exact absurd ⟨n, hr⟩ (h' q hq)
    | some m =>
      obtain ⟨⟨q, hq, hr⟩, h2⟩ := h
      obtain ⟨⟨q', hq', hr'⟩, h2'⟩ := h'
      have a := h2 q' m hq' hr'
      have b := h2' q n hq hr
      congr 1; omega
noncomputable def fewO (p : P') (line : Bool) (room : Nat) : Option Nat := (fewest_ex p line room).choose
theorem fewO_spec (p : P') (line : Bool) (room : Nat) : Fewest p line room (fewO p line room) := (fewest_ex p line room).choose_spec
/-- a Search whose dict is not b -/
structure SearchBut (C b : Addr) (H : Hp) (x : Addr) (p : P') (line : Bool) (room home late : Nat) : Prop where
  ex : ∃ d f, d ≠ b ∧ SO C H x d p line room home ∧ DA trD H d f ∧ SInv p line room home late (2 ^ p.length) [] f
section
variable {C b : Addr} {H H' : Hp} {x : Addr} {p : P'} {line : Bool} {room home late : Nat}
theorem SearchBut.at (h : SearchBut C b H x p line room home late) : SearchAt C H x p line room home late := by
  obtain ⟨d, f, _, h1, h2, h3⟩ := h.ex
  exact ⟨d, f, h1, h2, h3⟩
theorem SearchBut.ext (h : SearchBut C b H x p line room home late) (e : Ex H H') : SearchBut C b H' x p line room home late := by
  obtain ⟨d, f, q1, h1, h2, h3⟩ := h.ex
  exact ⟨d, f, q1, h1.ext e, h2.ex e, h3⟩
theorem SearchBut.exb (h : SearchBut C b H x p line room home late) {kv : List (List Key × V)} (h1 : H b = some (.dT kv)) (e : ExB b H H') : SearchBut C b H' x p line room home late := by
  obtain ⟨d, f, z1, ⟨dx, vP, vB, q1, q2, q3⟩, ⟨kvs, q4, q5⟩, q6⟩ := h.ex
  have tk := e.tk h1
  exact ⟨d, f, z1, ⟨dx, vP, vB, e _ _ q1 (ne_of q1 h1 (by intro z; cases z)), q2.keep tk, q3.keep tk⟩, ⟨kvs, e _ _ q4 z1, q5.imp fun v x r => r.keep tk⟩, q6⟩
theorem SearchBut.exl (h : SearchBut C b H x p line room home late) {c : Addr} {xs : List V} (h1 : H c = some (.lst xs)) (e : ExB c H H') : SearchBut C b H' x p line room home late := by
  obtain ⟨d, f, z1, ⟨dx, vP, vB, q1, q2, q3⟩, ⟨kvs, q4, q5⟩, q6⟩ := h.ex
  have tk : TK H H' := fun a xs ha => e a _ ha fun z => by rw [z, h1] at ha; cases ha
  exact ⟨d, f, z1, ⟨dx, vP, vB, e _ _ q1 (ne_of q1 h1 (by intro z; cases z)), q2.keep tk, q3.keep tk⟩, ⟨kvs, e _ _ q4 (ne_of q4 h1 (by intro z; cases z)), q5.imp fun v x r => r.keep tk⟩, q6⟩
end
structure SKept (C : Addr) (p : P') (line : Bool) (room : Nat) (d : Addr) (H : Hp) : Prop where
  ex : ∃ kvs f, H d = some (.dT kvs) ∧ DF (fun v (x : Nat × Nat) => ∃ xa, v = .ref xa ∧ SearchBut C d H xa p line room x.1 x.2) kvs f ∧ ∀ k x, f k = some x → k = [x.1, x.2] ∧ x.1 < 6 ∧ x.2 < 16
theorem SKept.ext {C d : Addr} {H H' : Hp} {p : P'} {line : Bool} {room : Nat} (h : SKept C p line room d H) (e : Ex H H') : SKept C p line room d H' := by
  obtain ⟨kvs, f, h1, h2, h3⟩ := h.ex
  exact ⟨kvs, f, e _ _ h1, h2.imp fun v x ⟨xa, a, b⟩ => ⟨xa, a, b.ext e⟩, h3⟩
def optT : Option Tl → PyData
  | none => .none
  | some tl => trD tl
section
variable {K : PySem.W.Frag} {σ : L2.St} {H H' : Hp} {te : TE}
/-- min(l, default=None), l a list of trails -/
theorem evr_minT {tls : List Tl} {F : Addr} {vs : List V} (h : Ev te σ H (.ref F)) (hF : H F = some (.lst vs)) (hv : TdAll H vs (tls.map trD)) : EvR (tCKw rMinD (tCons te tNil) (tCons (tC .non) tNil)) σ H (fun v H' => ∃ r, Td H' v (optT r) ∧ (r = none → tls = []) ∧ ∀ tl, r = some tl → tl ∈ tls ∧ ∀ y ∈ tls, tl.c ≤ y.c) := fun H1 e Q q => h H1 e _ fun H2 e2 => by
  have e3 := e.trans e2
  refine ⟨F, vs, _, .non, rfl, rfl, e3 _ _ hF, hv.ex e3, fun a ha b hb => ?_, fun a ha => ?_, fun hn => ?_, fun i v d hi hd td hf => ?_⟩
  · obtain ⟨x, _, rfl⟩ := List.mem_map.mp ha
    obtain ⟨y, _, rfl⟩ := List.mem_map.mp hb
    exact alike_tr x y
  · obtain ⟨x, _, rfl⟩ := List.mem_map.mp ha
    exact ⟨fun z => (by cases z), trD_depth x⟩
  · exact q _ H2 e2 ⟨none, .non, fun _ => List.map_eq_nil_iff.mp hn, fun tl z => (by cases z)⟩
  · rw [List.getElem?_map] at hd
    obtain ⟨x, hx, rfl⟩ := Option.map_eq_some_iff.mp hd
    refine q v H2 e2 ⟨some x, td, fun z => (by cases z), fun tl z => ?_⟩
    cases z
    refine ⟨List.mem_of_getElem? hx, fun y hy => ?_⟩
    have := hf (fun d => match d with | .tuple (.int i :: _) => i | _ => 0) (fun a b ha hb hlt => ?_) (fun a b ha hb hlt => ?_) (trD y) (List.mem_map.mpr ⟨y, hy, rfl⟩)
    · exact Int.ofNat_le.mp this
    · obtain ⟨y, _, rfl⟩ := List.mem_map.mp ha
      obtain ⟨z, _, rfl⟩ := List.mem_map.mp hb
      exact Int.ofNat_le.mpr (better_eq y z hlt)
    · obtain ⟨y, _, rfl⟩ := List.mem_map.mp ha
      obtain ⟨z, _, rfl⟩ := List.mem_map.mp hb
      exact Int.ofNat_le.mpr (better_ne y z hlt)
end
theorem looseT_len10 {t : T'} {line : Bool} {room k : Nat} (hz : t.length ≤ 10) : (looseT t line room k).length ≤ 100 := by
  unfold looseT
  refine Nat.le_trans (flat_len fun x _ => looseE_len) ?_
  rw [List.length_range]
  exact Nat.mul_le_mul hz hz
theorem looseFrom_len10 {line : Bool} {room : Nat} : ∀ {p : P'} {k : Nat}, (∀ t ∈ p, t.length ≤ 10) → (looseFrom line room k p).length ≤ 100 * p.length
  | [], _, _ => Nat.zero_le _
  | t :: r, k, h => by
    rw [looseFrom, List.length_append, List.length_cons, Nat.mul_succ, Nat.add_comm]
    exact Nat.add_le_add (looseFrom_len10 fun y hy => h y (List.mem_cons_of_mem _ hy)) (looseT_len10 (h t (List.mem_cons_self ..)))
theorem live_len10 {p : P'} {line : Bool} {room : Nat} (h : ProgSm p) : (live p line room).length ≤ 500 := by
  refine Nat.le_trans (List.length_filter_le _ _) ?_
  have h1 := looseFrom_len10 (line := line) (room := room) (k := 0) h.short10
  have := h.few5
  unfold loose
  omega
section
variable {P : Program} {w : World} {K : PySem.W.Frag} {mg : Str → Option Value} {base : Heap}
def pBest (vs : List V) (H : Hp) (R : Rel) : Prop := ∃ (p : P') (line : Bool) (room : Nat), TdAll H vs [progD p, boxD line room] ∧ ProgSm p ∧ 1 ≤ room ∧ R = fun v H' => ∃ r, Td H' v (optT r) ∧ Fewest p line room (r.map Tl.c)
theorem scBest : FnScope ["program", "buffers", "searches", "found", "thread", "early", "late"] ["program", "buffers"] (defScope sBest) := ⟨rfl, rfl, rfl, by decide +kernel, rfl, by decide +kernel, by decide +kernel⟩
theorem ok_best {C : Addr} (T : Txt mg) (W : TSearch K C) (D1 : DefOk P w K mg base "live_pairs" ["program", "buffers"] 9 (SpD fLive)) (M0 : MakeOk P w K mg base C "Search" ["self", "program", "buffers", "home", "late"] 7 (spSI C)) (M1 : MethOk P w K mg base C "trails_to" ["self", "early"] 7 (SpG (pTT C)))
    (h : Here K mg "best_trail" sBest ["program", "buffers"]) : DefOk P w K mg base "best_trail" ["program", "buffers"] 10 (SpG pBest) := h.ok fun F => by
  refine F.ok scBest (fun vs H Q E h => ?_) (fun cdv A outer s H vs Q E hr h => ?_)
  · obtain ⟨_, ⟨p, line, room, r, _⟩, _⟩ := h
    exact r.length
  · obtain ⟨_, ⟨p, line, room, r, sm, hroom, rfl⟩, k⟩ := h
    obtain ⟨v1, v2, rfl, r1, r2⟩ := r.inv2
    have ok : ProgOk p := sm.toProgOk
    have nd := scBest.nd
    have hu := hu_of hr
    have hu2 := hu65 hr
    refine ⟨_, pss_cons (ps_par (by rfl) nd (i := 2) (j := 3) rfl rfl (by decide) rfl rfl (pa_cons pe_dnewT (pa_cons (pe_lst pa_nil) pa_nil)) (by rfl))
      (pss_cons (ps_for PassesOwn.never rfl (pi_tup (pe_def D1 hr rfl (pa_cons (pv 0) (pa_cons (pv 1) pa_nil)) pass0)) (pg_tup (by rfl) (pgs_cons (pg_name (i := 4) nd rfl (.inl rfl)) (pgs_cons (pg_name (i := 5) nd rfl (.inl rfl)) (pgs_cons (pg_name (i := 6) nd rfl (.inl rfl)) pgs_nil))))
        (pss_cut (ps_if (pt_cmp (pc_dnotin hu (pe_tup (pa_cons (pv 4) (pa_cons (pv 6) pa_nil))) (pv 2))) (pss_one (ps_dput hu (pv 2) (pe_tup (pa_cons (pv 4) (pa_cons (pv 6) pa_nil))) (pe_mk M0 (hr.mono (by decide)) rfl (pa_cons (pv 0) (pa_cons (pv 1) (pa_cons (pv 4) (pa_cons (pv 6) pa_nil)))) pass0) rfl)) pss_nil)
        (pss_one (ps_expr (pe_bm PySem.F.plainAttrs_list PySem.F.slot_list_extend PySem.F.type_list_extend mt_extend (pv 3) (pa_cons (pe_m M1 W.cl (hr.mono (by decide)) (pe_dget hu (pv 2) (pe_tup (pa_cons (pv 4) (pa_cons (pv 6) pa_nil))) (fun _ _ => rfl)) (pa_cons (pv 5) pa_nil) pass0) pa_nil))))))
      (pss_one (ps_ret (pe_minD rfl (Nat.lt_of_le_of_lt (Nat.add_le_add_left (by decide) _) hu2) (by rfl) T.min (pa_cons (pv 3) pa_nil) (pk_cons pe_non pk_nil))))), ?_⟩
    intro W0 hW0
    refine ⟨by show 0 ≤ sizeLine; decide, fun F0 hF0 => ⟨_, _, rfl, ?_⟩⟩
    have hne : W0 ≠ F0 := fun z => by rw [← z, upd_same] at hF0; cases hF0
    have hFH : H F0 = none := by rw [upd_ne hne.symm] at hF0; exact hF0
    generalize hH0 : upd (upd H W0 (.dT [])) F0 (.lst []) = H0
    have eH0 : Ex H H0 := by rw [← hH0]; exact (Ex.new hW0).trans (Ex.new hF0)
    have w0 : H0 W0 = some (.dT []) := by rw [← hH0, upd_ne hne]; exact upd_same
    have f0 : H0 F0 = some (.lst []) := by rw [← hH0]; exact upd_same
    have hL := live_len10 (line := line) (room := room) sm
    refine q_forTD (evd_call (evds_cons (evd_var rfl (r1.ex eH0)) (evds1 (evd_var rfl (r2.ex eH0)))) ⟨p, line, room, rfl, ok, rfl⟩)
      (fun Hx i σ' H' => TK Hx H' ∧ Ex H H' ∧ (∃ (tls : List Tl) (vs : List V), H' F0 = some (.lst vs) ∧ TdAll H' vs (tls.map trD) ∧ tls.length ≤ 25600 * i ∧ (∀ tl ∈ tls, ∃ q, q ∈ live p line room ∧ Route p line room q tl.c) ∧ ∀ (j : Nat) (q : Tri), j < i → (live p line room)[j]? = some q → ∀ c, Route p line room q c → ∃ tl ∈ tls, tl.c ≤ c) ∧ SKept C p line room W0 H' ∧
        ∃ x4 x5 x6, σ' = [some v1, some v2, some (.ref W0), some (.ref F0), x4, x5, x6])
      (fun Hx ex => ⟨TK.refl _, eH0.trans ex, ⟨[], [], ex _ _ f0, .nil, Nat.zero_le _, fun _ h => (by cases h), fun j _ hj => absurd hj (Nat.not_lt_zero _)⟩, ⟨[], fun _ => none, ex _ _ w0, DF.nil, fun k x h => (by cases h)⟩, _, _, _, rfl⟩)
      (fun Hx i σ' H' ⟨a, _⟩ => a) (fun Hx i x d σ' H1 ex hi hx ⟨tk1, E1, ⟨tls, vs, hF1, hvs, hlen, ht1, ht2⟩, wk, x4, x5, x6, es⟩ => ?_) (fun Hx σ' H' ex ⟨tk, eb, ⟨tls, vs, hF, hvs, hlen, ht1, ht2⟩, wk, x4, x5, x6, es⟩ => ?_)
    · subst es
      rw [List.getElem?_map] at hi
      obtain ⟨q, hq, rfl⟩ := Option.map_eq_some_iff.mp hi
      have hql := List.mem_of_getElem? hq
      have hil : i < (live p line room).length := (List.getElem?_eq_some_iff.mp hq).1
      obtain ⟨q1, q2, q3, q4, q5⟩ := loose_at (live_loose hql)
      have hfew := ok.few
      have hsh := ok.short _ (th_mem q1)
      obtain ⟨xa0, xs0, rfl, hx0, _, rx⟩ := (show Td H1 x (.tuple [.int (q.1 : Nat), .int (q.2.1 : Nat), .int (q.2.2 : Nat)]) from hx).tup_inv
      obtain ⟨y1, y2, y3, rfl, s1, s2, s3⟩ := rx.inv3
      refine ⟨xa0, _, rfl, SqT.of hx0, rfl, _, _, rfl, _, _, rfl, _, _, rfl, rfl, ?_⟩
      rw [s1.int_inv, s2.int_inv, s3.int_inv]
      have ekey : ∀ {H2 : Hp}, EvD (tTup (tCons (tVar 4) (tCons (tVar 6) tNil))) [some v1, some v2, some (.ref W0), some (.ref F0), some (.int (q.1 : Nat)), some (.int (q.2.1 : Nat)), some (.int (q.2.2 : Nat))] H2 (intsT [q.1, q.2.2]) := fun {_} => evd_tup (ds := [.int (q.1 : Nat), .int (q.2.2 : Nat)]) (evds_cons (evd_var rfl (.int _)) (evds1 (evd_var rfl (.int _)))) (by show 2 ≤ 100000; decide)
      obtain ⟨kvW, fW, hW, dfW, hfW⟩ := wk.ex
      have lenW : kvW.length < sizeLine := by
        refine Nat.lt_of_le_of_lt (dfW.few (fun k => match k with | [a, b] => a * 16 + b | _ => 0) 96 (fun k hk => ?_) (fun j k hj hk e => ?_)) (by decide)
        · cases e : fW k with
          | none => exact absurd e hk
          | some x =>
            obtain ⟨rfl, h1, h2⟩ := hfW k x e
            show x.1 * 16 + x.2 < 96
            omega
        · cases e1 : fW k with
          | none => exact absurd e1 hk
          | some x =>
            cases e2 : fW j with
            | none => exact absurd e2 hj
            | some y =>
              obtain ⟨rfl, h1, h2⟩ := hfW k x e1
              obtain ⟨rfl, h3, h4⟩ := hfW j y e2
              have e : y.1 * 16 + y.2 = x.1 * 16 + x.2 := e
              have a1 : y.1 = x.1 := by omega
              have a2 : y.2 = x.2 := by omega
              rw [a1, a2]
      refine q_cut (M := fun σ' H2 => σ' = [some v1, some v2, some (.ref W0), some (.ref F0), some (.int (q.1 : Nat)), some (.int (q.2.1 : Nat)), some (.int (q.2.2 : Nat))] ∧ TK H1 H2 ∧ Ex H H2 ∧ H2 F0 = some (.lst vs) ∧ SKept C p line room W0 H2 ∧
        ∃ kvs xa, H2 W0 = some (.dT kvs) ∧ valV kvs (kI [q.1, q.2.2]) = some (.ref xa) ∧ SearchBut C W0 H2 xa p line room q.1 q.2.2) ?_ fun σ' H2 ⟨es, tk2, eb2, hF2, wk2, kv2, xa, hW2, hv2, wn⟩ => ?_
      · refine s_when (evt_B (evd_notinV ekey (ev_ref rfl) hW)) (fun hb H2 e2 => ?_) (fun hb H2 e2 => ?_)
        · have hval : valV kvW (kI [q.1, q.2.2]) = none := by
            cases e : valV kvW (kI [q.1, q.2.2]) with
            | none => rfl
            | some v => rw [e] at hb; cases hb
          have R1 : Td H2 v1 (progD p) := (r1.ex E1).ex e2
          have R2 : Td H2 v2 (boxD line room) := (r2.ex E1).ex e2
          refine s_dputV (R := fun v H3 => ∃ xa, v = .ref xa ∧ SearchBut C W0 H3 xa p line room q.1 q.2.2) (evr_make (evds_cons (evd_var rfl R1) (evds_cons (evd_var rfl R2) (evds_cons (evd_var rfl (.int _)) (evds1 (evd_var rfl (.int _)))))) fun ws H3 xa dx e3 r nx ndx ne Q' kq => ?_) (ev_ref rfl) ekey (e2 _ _ hW) lenW
            fun v H3 H4 e3 ⟨xa, ev, wn⟩ e4 hW4 => ?_
          · obtain ⟨w1, w2, w3, w4, rfl, t1, t2, t3, t4⟩ := r.inv4
            have ee : Ex H3 (upd (upd H3 dx (.own xa)) xa (.ins C dx [])) := fun a o ha => by
              rw [upd_ne (ne_of_none ha nx), upd_ne (ne_of_none ha ndx)]; exact ha
            refine ⟨xa, dx, p, line, room, q.1, q.2.2, w1, w2, w3, w4, rfl, upd_same, t1.ex ee, t2.ex ee, t3.ex ee, t4.ex ee, ok, hroom, q1, q3, q5, fun H' eb' ⟨d, f, z0, z1, z2, z3⟩ => kq H' (fun a o ha => eb' a o (ee a o ha) (ne_of_none ha nx)) ⟨xa, rfl, d, f, fun z => ?_, z1, z2, z3⟩⟩
            have hd3 := fresh_back ee z0
            rw [z, (e2.trans e3) _ _ hW] at hd3; cases hd3
          · subst ev
            have e24 := (e2.trans e3).trans e4
            refine ⟨rfl, (TK.ex e24).trans (TK.dT hW4), Ex.mut (E1.trans e24) hW0, ?_, ⟨_, setF fW [q.1, q.2.2] (q.1, q.2.2), upd_same, DF.put (dfW.imp fun v y ⟨xb, h1, h2⟩ => ⟨xb, h1, (h2.ext e24).exb hW4 ExB.upd⟩) ⟨xa, rfl, (wn.ext e4).exb hW4 ExB.upd⟩, fun k y hk => ?_⟩, ?_⟩
            · rw [upd_ne hne.symm]; exact e24 _ _ hF1
            · unfold setF at hk
              split at hk
              · rename_i hkk
                cases hk
                exact ⟨hkk, by show q.1 < 6; omega, by show q.2.2 < 16; omega⟩
              · exact hfW k y hk
            · exact ⟨_, xa, upd_same, by rw [valV_put, if_pos rfl], (wn.ext e4).exb hW4 ExB.upd⟩
        · cases e : valV kvW (kI [q.1, q.2.2]) with
          | none => rw [e] at hb; cases hb
          | some v =>
            obtain ⟨y, hy, xa, rfl, wn⟩ := dfW.so _ _ e
            obtain ⟨hk, _, _⟩ := hfW _ y hy
            have a1 : q.1 = y.1 := (List.cons.inj hk).1
            have a2 : q.2.2 = y.2 := (List.cons.inj (List.cons.inj hk).2).1
            rw [← a1, ← a2] at wn
            exact ⟨rfl, TK.ex e2, E1.trans e2, e2 _ _ hF1, wk.ext e2, kvW, xa, e2 _ _ hW, e, wn.ext e2⟩
      · subst es
        obtain ⟨dS, fS, so, _, _⟩ := wn.at.ex
        obtain ⟨dxa, vPa, vBa, hxa, _⟩ := so.ex
        have hv2' := hvs.keep tk2
        have hvl := hvs.length
        rw [List.length_map] at hvl
        refine s_extV (R := fun v H' => ∃ tls : List Tl, Ld (tls.map trD) v H' ∧ tls.length ≤ 25600 ∧ (∀ tl ∈ tls, Route p line room (q.1, q.2.1, q.2.2) tl.c) ∧ ∀ c, Route p line room (q.1, q.2.1, q.2.2) c → ∃ tl ∈ tls, tl.c ≤ c) hF2 rfl (evr_meth (C := C) (ev_dgetV (ev_ref rfl) ekey hW2 hv2) hxa rfl (evds1 (evd_var (d := .int (q.2.1 : Nat)) rfl (.int _))) fun ws H3 e3 r => by
          obtain ⟨w1, rfl, t1⟩ := r.inv1
          obtain ⟨dd, ff, z1, z2, z3⟩ := wn.at.ex
          exact ⟨xa, p, line, room, q.1, q.2.2, q.2.1, w1, rfl, t1, ⟨dd, ff, z1.ext e3, z2.ex e3, z3⟩, sm, hroom, q1, Nat.lt_trans q2 q3, acc_of_store q4, rfl⟩) fun vr H3 e3 ⟨tls2, ⟨l2, ws2, ev, hl2, hz2, hws2⟩, hlen2, hr1, hr2⟩ => ?_
        have hwl := hws2.length
        rw [List.length_map] at hwl
        have hF3 := e3 _ _ hF2
        refine ⟨l2, ws2, ev, hl2, ?_, ?_⟩
        · have h0 : (25600 : Nat) * 500 + 25600 ≤ sizeLine := by decide
          have h1 : tls.length ≤ 25600 * 500 := Nat.le_trans hlen (Nat.mul_le_mul_left _ (by omega))
          omega
        · have kk : TK H3 (upd H3 F0 (.lst (vs ++ ws2))) := TK.lst hF3
          refine ⟨(tk1.trans (tk2.trans (TK.ex e3))).trans kk, Ex.mut (eb2.trans e3) hFH, ⟨tls ++ tls2, vs ++ ws2, upd_same, ?_, ?_, fun tl h => ?_, fun j q' hj hq' c hc => ?_⟩, ?_, _, _, _, rfl⟩
          · rw [List.map_append]
            exact ((hv2'.ex e3).keep kk).append (hws2.keep kk)
          · rw [List.length_append]; omega
          · rcases List.mem_append.mp h with h | h
            · exact ht1 tl h
            · exact ⟨q, hql, hr1 tl h⟩
          · rcases Nat.lt_succ_iff_lt_or_eq.mp hj with h1 | rfl
            · obtain ⟨tl, h2, h3⟩ := ht2 j q' h1 hq' c hc
              exact ⟨tl, List.mem_append_left _ h2, h3⟩
            · rw [hq] at hq'; cases hq'
              obtain ⟨tl, h2, h3⟩ := hr2 c hc
              exact ⟨tl, List.mem_append_right _ h2, h3⟩
          · obtain ⟨kvs, f, h1, h2, h3⟩ := (wk2.ext e3).ex
            exact ⟨kvs, f, by rw [upd_ne hne]; exact h1, h2.imp fun v y ⟨xb, a, b⟩ => ⟨xb, a, b.exl hF3 ExB.upd⟩, h3⟩
    · subst es
      rw [List.length_map] at ht2
      refine s_retR (evr_minT (ev_ref rfl) hF hvs) fun v H1 e1 ⟨r, hr1, hr2, hr3⟩ => k v H1 (eb.trans e1) ⟨r, hr1, ?_⟩
      have all : ∀ q c, q ∈ loose p line room → Route p line room q c → ∃ tl ∈ tls, tl.c ≤ c := fun q c hq hc => by
        have hlv : q ∈ live p line room := by
          rw [live_eq, List.mem_filter]
          exact ⟨hq, liveB_iff.mpr ⟨c, hc⟩⟩
        obtain ⟨j, hj, hjq⟩ := List.getElem_of_mem hlv
        exact ht2 j q hj (by rw [List.getElem?_eq_getElem hj, hjq]) c hc
      cases r with
      | none =>
        intro q hq ⟨c, hc⟩
        obtain ⟨tl, htl, _⟩ := all q c hq hc
        rw [hr2 rfl] at htl; cases htl
      | some tl =>
        obtain ⟨h1, h2⟩ := hr3 tl rfl
        obtain ⟨q, hq, hr⟩ := ht1 tl h1
        refine ⟨⟨q, live_loose hq, hr⟩, fun q c hq hc => ?_⟩
        obtain ⟨tl', h3, h4⟩ := all q c hq hc
        exact Nat.le_trans (h2 tl' h3) h4
def fFew : List PyData → PyData → Prop := fun ds d => ∃ (p : P') (line : Bool) (room : Nat), ds = [progD p, boxD line room] ∧ ProgSm p ∧ 1 ≤ room ∧ d = optD (fewO p line room)
theorem scFew : FnScope ["program", "buffers", "trail"] ["program", "buffers"] (defScope sFew) := ⟨rfl, rfl, rfl, by decide +kernel, rfl, by decide +kernel, by decide +kernel⟩
theorem ok_few (T : Txt mg) (D1 : DefOk P w K mg base "best_trail" ["program", "buffers"] 10 (SpG pBest)) (h : Here K mg "fewest_steps" sFew ["program", "buffers"]) : DefOk P w K mg base "fewest_steps" ["program", "buffers"] 11 (SpD fFew) := h.ok fun F => by
  refine F.ok scFew (fun vs H Q E h => ?_) (fun cdv A outer s H vs Q E hr h => ?_)
  · obtain ⟨_, ⟨ds, d, r, ⟨p, line, room, rfl, _⟩, _⟩, _⟩ := h
    exact r.length
  · obtain ⟨_, ⟨ds, d, r, ⟨p, line, room, rfl, sm, hroom, rfl⟩, rfl⟩, k⟩ := h
    obtain ⟨v1, v2, rfl, r1, r2⟩ := r.inv2
    have nd := scFew.nd
    refine ⟨_, pss_cons (ps_set (i := 2) nd rfl (Or.inl rfl) (pe_def D1 hr rfl (pa_cons (pv 0) (pa_cons (pv 1) pa_nil)) pass0))
      (pss_one (ps_ret (pe_ifExp (pt_cmpR op_isN (pv 2) pe_non (by rfl)) pe_non (pe_ix (ixT K) (pv 2) pe_int (fun _ _ => rfl))))), ?_⟩
    refine q_asgR (evr_call (evds_cons (evd_var rfl r1) (evds1 (evd_var rfl r2))) fun ws H1 _ r => ⟨p, line, room, r, sm, hroom, rfl⟩) fun vt H1 e1 ⟨rt, hrt, hfw⟩ => ?_
    have eq : fewO p line room = rt.map Tl.c := fewest_one (fewO_spec p line room) hfw
    rw [eq] at k
    refine s_retR (R := Dt (optD (rt.map Tl.c))) (evr_if (b := rt.isNone) (et_is (evt_B (evd_isN (evd_var rfl hrt))) (by cases rt <;> rfl)) (fun hb => ?_) (fun hb => ?_)) fun v H2 e2 r => k v H2 (e1.trans e2) r
    · cases rt with
      | none => exact evd_non
      | some tl => cases hb
    · cases rt with
      | none => cases hb
      | some tl => exact evd_ix (ds := [.int (tl.c : Int), .tuple (tl.vis.map fun q : Nat × Nat => plD q.1 q.2)]) (evd_var rfl hrt) evd_int atI_0
end
end RFW
end

section
set_option Elab.async false
set_option linter.all false
set_option maxRecDepth 100000
set_option maxHeartbeats 4000000
/-! the law's urn: urn, take, of. -/
namespace RFW
open PySem L2 Evl RF
abbrev sUrn : Stmt := top 29
abbrev sTake : Stmt := top 30
abbrev sOf : Stmt := top 31
structure UrnAt (H : Hp) (l : Addr) (n : Nat) : Prop where
  ex : ∃ a b c : Int, H l = some (.lst [.int a, .int b, .int c]) ∧ 0 ≤ b ∧ b < 2 ^ 62 ∧ 0 ≤ c ∧ c ≤ n ∧ n ≤ 1000000
theorem UrnAt.ext {H H' : Hp} {l : Addr} {n : Nat} (h : UrnAt H l n) (e : Ex H H') : UrnAt H' l n := by
  obtain ⟨a, b, c, h1, h2⟩ := h.ex
  exact ⟨a, b, c, e _ _ h1, h2⟩
theorem UrnAt.mono {H : Hp} {l : Addr} {n m : Nat} (h : UrnAt H l n) (hm : n ≤ m) (h6 : m ≤ 1000000) : UrnAt H l m := by
  obtain ⟨a, b, c, h1, h2, h3, h4, h5, _⟩ := h.ex
  exact ⟨a, b, c, h1, h2, h3, h4, by omega, h6⟩
theorem UrnAt.lst {H : Hp} {l : Addr} {n : Nat} (h : UrnAt H l n) : ∃ xs, H l = some (.lst xs) := by
  obtain ⟨a, b, c, h1, _⟩ := h.ex
  exact ⟨_, h1⟩
theorem UrnAt.tk {H H' : Hp} {l : Addr} {n : Nat} (h : UrnAt H l n) (e : ExB l H H') : TK H H' := fun a xs ha => e a _ ha fun z => by
  obtain ⟨ys, hl⟩ := h.lst
  rw [z, hl] at ha; cases ha
theorem op_powB {X : Cx} : OpR X (binaryOp .Pow) (rI (fun i j => 0 ≤ j ∧ (Builtin.Int.intBits i : Int) * j ≤ 2 ^ 27) fun i j => .int (i ^ j.toNat)) := opI fun _ _ _ _ _ _ _ hc q => PyProof.Rows.pow_int hc.1 hc.2 q
section
variable {K : PySem.W.Frag} {σ : L2.St} {H H' : Hp} {ta tb te tx : TE} {D : Ends} {tz : TS} {l : Addr} {R : Rel} {d : PyData}
theorem evr_cb1 {r : List V → Hp → VK → Prop} (h : EvD te σ H d) (hr : ∀ v H1, Ex H H1 → Td H1 v d → ∀ Q : VK, (∀ v' H2, Ex H1 H2 → R v' H2 → Q v' H2) → r [v] H1 Q) : EvR (tCB r (tCons te tNil)) σ H R := fun H1 e Q q =>
  h H1 e _ fun v H2 e2 rv => hr v H2 (e.trans e2) rv Q fun v' H3 e3 r3 => q v' H3 (e2.trans e3) r3
theorem evd_at {xs : List V} {j : Int} {i : Nat} (hv : σ[i]? = some (some (.ref l))) (hl : SqL K H l xs) (hj : EvD tb σ H (.int j)) {v : V} (ha : atI xs j = some v) (hd : ∀ H1, Ex H H1 → R v H1) : EvR (tOp (rIxL K) (tVar i) tb) σ H R := fun H1 e Q q =>
  ⟨_, hv, hj H1 e _ fun y H2 e2 r => ⟨l, xs, j, v, rfl, r.int_inv, ex_l (e.trans e2) hl, ha, q v H2 e2 (hd H2 (e.trans e2))⟩⟩
theorem evd_abs {i : Int} (h : EvD te σ H (.int i)) : EvD (tCB (fun xs H Q => ∃ i, xs = [V.int i] ∧ Q (.int (if i < 0 then -i else i)) H) (tCons te tNil)) σ H (.int (if i < 0 then -i else i)) :=
  evr_cb1 h fun v H1 _ r Q q => ⟨i, by rw [r.int_inv], q _ H1 (Ex.refl _) (.int _)⟩
def rInt1 : List V → Hp → VK → Prop := fun xs H Q => (∃ i, xs = [.int i] ∧ Q (.int i) H) ∨ ∃ k, xs = [.bl k] ∧ Q (.int (if k then 1 else 0)) H
theorem evd_intb {b : Bool} (h : EvD te σ H (.bool b)) : EvD (tCB rInt1 (tCons te tNil)) σ H (.int (if b then 1 else 0)) :=
  evr_cb1 h fun v H1 _ r Q q => .inr ⟨b, by rw [r.bl_inv], q _ H1 (Ex.refl _) (.int _)⟩
end
theorem atI_in {α : Type} {xs : List α} {i : Int} (h0 : 0 ≤ i) (h1 : i < xs.length) : ∃ x, atI xs i = some x ∧ x ∈ xs := by
  obtain ⟨j, rfl⟩ : ∃ j : Nat, i = (j : Int) := ⟨i.toNat, by omega⟩
  have hj : j < xs.length := by omega
  exact ⟨xs[j], atI_nat (by rw [List.getElem?_eq_getElem hj]), List.getElem_mem hj⟩
section
variable {P : Program} {w : World} {K : PySem.W.Frag} {mg : Str → Option Value} {base : Heap}
/-- script, k -/
def spUrn (K : PySem.W.Frag) : Sp := fun vs H Q _ => ∃ (a : Addr) (ns : List Int) (k : Nat), vs = [.ref a, .int (k : Int)] ∧ SqL K H a (ns.map V.int) ∧ k ≤ 10 ∧ ∀ l H', H l = none → Ex H H' → UrnAt H' l 0 → Q (.ref l) H'
theorem scUrn : FnScope ["_law_script", "_law_k", "_law_cell", "_law_own"] ["_law_script", "_law_k"] (defScope sUrn) := ⟨rfl, rfl, rfl, by decide +kernel, rfl, by decide +kernel, by decide +kernel⟩
theorem ok_urn (T : Txt mg) (h : Here K mg "_law_urn" sUrn ["_law_script", "_law_k"]) : DefOk P w K mg base "_law_urn" ["_law_script", "_law_k"] 1 (spUrn K) := h.ok fun F => by
  refine F.ok scUrn (fun vs H Q E h => ?_) (fun cdv A outer s H vs Q E hr h => ?_)
  · obtain ⟨a, ns, k, rfl, _⟩ := h
    rfl
  · obtain ⟨a, ns, kk, rfl, hS, hk, k⟩ := h
    have nd := scUrn.nd
    refine ⟨_, pss_cons (ps_set (i := 2) nd rfl (Or.inl rfl) (pe_ifExp (pt_cmpR op_lt (pv 1) (pe_callB call_len_seq (by rfl) T.len PySem.boot_len (pa_cons (pv 0) pa_nil)) (nomark _)) (pe_ix (ixL K) (pv 0) (pv 1) (fun _ _ => rfl)) (pe_op op_add (pe_op op_mul pe_int (pv 1)) pe_int)))
      (pss_cons (ps_set (i := 3) nd rfl (Or.inl rfl) (pe_op op_mul (pe_op op_mod (pe_callB call_abs (by rfl) T.abs PyProof.Rows.boot_abs (pa_cons (pv 2) pa_nil)) (pe_op op_powB (pe_op op_pow pe_int pe_int) pe_int)) (pe_callTy call_int1 (by rfl) T.int PyProof.Rows.boot_int (pa_cons (pe_cmpR op_ge (pe_callB call_abs (by rfl) T.abs PyProof.Rows.boot_abs (pa_cons (pv 2) pa_nil)) (pe_op op_pow pe_int pe_int) (nomark _)) pa_nil))))
      (pss_one (ps_ret (pe_lst (pa_cons (pv 3) (pa_cons (pe_op op_mod (pe_op op_add (pe_op op_add (pe_op op_mul (pe_op op_mod (pv 2) pe_int) pe_int) (pe_op op_mul (pe_op op_mul pe_int (pv 1)) (pv 1))) pe_int) pe_int) (pa_cons pe_int pa_nil))))))), ?_⟩
    refine q_asgR (R := fun v _ => ∃ i, v = .int i) (evr_if (b := decide (kk < ns.length)) (et_is (evt_B (evd_I0b (g := fun i j => decide (i < j)) (evd_var (d := .int (kk : Nat)) rfl (.int _)) (evd_of_int (ev_len (ev_ref rfl) hS)))) ?_) (fun hb => ?_) (fun hb => ?_)) fun v H1 e1 ⟨cell, ev⟩ => ?_
    · rw [List.length_map]
      exact decide_eq_decide.mpr Int.ofNat_lt
    · have hlt := of_decide_eq_true hb
      exact evd_at (v := .int ns[kk]) rfl hS (evd_var (d := .int (kk : Nat)) rfl (.int _)) (atI_nat (by rw [List.getElem?_map, List.getElem?_eq_getElem hlt]; rfl)) fun _ _ => ⟨_, rfl⟩
    · exact EvR.imp (evd_I0 (g := fun i j => i + j) (evd_I (g := fun i j => i * j) evd_int (evd_var (d := .int (kk : Nat)) rfl (.int _)) (.inl (by decide))) evd_int) fun v _ _ r => ⟨_, r.int_inv⟩
    subst ev
    refine q_asgR (R := fun v _ => ∃ i, v = .int i) (EvR.imp (evd_I (g := fun i j => i * j) (j := if decide ((10 : Int) ^ 18 ≤ (if cell < 0 then -cell else cell)) then 1 else 0) (evd_I (g := fun i j => i % j) (evd_abs (evd_var (d := .int cell) rfl (.int _))) (evd_I (g := fun i j => i ^ j.toNat) (i := 10 ^ 60) (j := 5) (evd_I (g := fun i j => i ^ j.toNat) (i := 10) (j := 60) evd_int evd_int ⟨by decide, by decide, by decide⟩) evd_int ⟨by decide, by decide +kernel⟩) (by decide +kernel))
      (evd_intb (evd_I0b (g := fun i j => decide (j ≤ i)) (evd_abs (evd_var (d := .int cell) rfl (.int _))) (evd_I (g := fun i j => i ^ j.toNat) (i := 10) (j := 18) evd_int evd_int ⟨by decide, by decide, by decide⟩))) (.inr ?_)) fun v _ _ r => ⟨_, r.int_inv⟩) fun v H2 e2 ⟨own, ev⟩ => ?_
    · cases decide ((10 : Int) ^ 18 ≤ (if cell < 0 then -cell else cell)) <;> exact ⟨by decide, by decide⟩
    subst ev
    have hm0 := Int.emod_nonneg cell (show (2305843009213693951 : Int) ≠ 0 by decide)
    have hm1 := Int.emod_lt_of_pos cell (show (0 : Int) < 2305843009213693951 by decide)
    have key : EvLd (tLst (tCons (tVar 3) (tCons (tOp (rI (fun _ j => 0 < j) fun i j => .int (i % j)) (tOp (rI0 fun i j => .int (i + j)) (tOp (rI0 fun i j => .int (i + j)) (tOp (rI CMul fun i j => .int (i * j)) (tOp (rI (fun _ j => 0 < j) fun i j => .int (i % j)) (tVar 2) (tC (.int 2305843009213693951))) (tC (.int 48271))) (tOp (rI CMul fun i j => .int (i * j)) (tOp (rI CMul fun i j => .int (i * j)) (tC (.int 7027)) (tVar 1)) (tVar 1))) (tC (.int 29))) (tC (.int 2305843009213693907))) (tCons (tC (.int 0)) tNil)))) [some (.ref a), some (.int (kk : Nat)), some (.int cell), some (.int own)] H2
        [.int own, .int ((cell % 2305843009213693951 * 48271 + 7027 * (kk : Nat) * (kk : Nat) + 29) % 2305843009213693907), .int 0] :=
      evld_lst (evds_cons (evd_var rfl (.int _)) (evds_cons (evd_I (g := fun i j => i % j) (evd_I0 (g := fun i j => i + j) (evd_I0 (g := fun i j => i + j) (evd_I (g := fun i j => i * j) (evd_I (g := fun i j => i % j) (evd_var rfl (.int _)) evd_int (by decide)) evd_int (.inl ⟨by omega, by omega⟩))
        (evd_I (g := fun i j => i * j) (evd_I (g := fun i j => i * j) evd_int (evd_var (d := .int (kk : Nat)) rfl (.int _)) (.inl (by decide))) (evd_var (d := .int (kk : Nat)) rfl (.int _)) (.inr ⟨by omega, by omega⟩))) evd_int) evd_int (by decide)) (evds1 evd_int))) (by show 3 ≤ 100000; decide)
    refine key H2 (Ex.refl _) _ fun p vs H3 hp e3 hl _ r => k p H3 (fresh_back (e1.trans e2) hp) ((e1.trans e2).trans e3) ?_
    obtain ⟨y1, y2, y3, rfl, z1, z2, z3⟩ := r.inv3
    rw [z1.int_inv, z2.int_inv, z3.int_inv] at hl
    have hq0 := Int.emod_nonneg (cell % 2305843009213693951 * 48271 + 7027 * (kk : Nat) * (kk : Nat) + 29) (show (2305843009213693907 : Int) ≠ 0 by decide)
    have hq1 := Int.emod_lt_of_pos (cell % 2305843009213693951 * 48271 + 7027 * (kk : Nat) * (kk : Nat) + 29) (show (0 : Int) < 2305843009213693907 by decide)
    exact ⟨_, _, _, hl, hq0, by omega, Int.le_refl _, by decide, by decide⟩
/-- urn, many -/
def spTake : Sp := fun vs H Q _ => ∃ (l : Addr) (n m : Nat), vs = [.ref l, .int (m : Int)] ∧ UrnAt H l n ∧ n < 1000000 ∧ 1 ≤ m ∧ m ≤ 1000000 ∧ ∀ (r : Nat) H', r < m → ExB l H H' → UrnAt H' l (n + 1) → Q (.int (r : Int)) H'
theorem scTake : FnScope ["_law_urn_here", "_law_many", "_law_digit", "_law_prime", "_law_mixed"] ["_law_urn_here", "_law_many"] (defScope sTake) := ⟨rfl, rfl, rfl, by decide +kernel, rfl, by decide +kernel, by decide +kernel⟩
theorem ok_take (T : Txt mg) (h : Here K mg "_law_take" sTake ["_law_urn_here", "_law_many"]) : DefOk P w K mg base "_law_take" ["_law_urn_here", "_law_many"] 1 spTake := h.ok fun F => by
  refine F.ok scTake (fun vs H Q E h => ?_) (fun cdv A outer s H vs Q E hr h => ?_)
  · obtain ⟨l, n, m, rfl, _⟩ := h
    rfl
  · obtain ⟨l, n, m, rfl, u, hn, hm1, hm2, k⟩ := h
    have nd := scTake.nd
    obtain ⟨a, b, c, hl, hb0, hb1, hc0, hc1, hn6⟩ := u.ex
    refine ⟨_, pss_cons (ps_if (pt_cmpR op_gt (pe_ix (ixL K) (pv 0) pe_int (fun _ _ => rfl)) pe_int (nomark _))
        (pss_cons (ps_set (i := 2) nd rfl (Or.inl rfl) (pe_op op_mod (pe_ix (ixL K) (pv 0) pe_int (fun _ _ => rfl)) (pv 1)))
        (pss_cons (ps_asg (pe_op op_fdiv (pe_ix (ixL K) (pv 0) pe_int (fun _ _ => rfl)) (pv 1)) (pg_sub (pv 0) pe_int set_list))
        (pss_one (ps_ret (pv 2))))) pss_nil)
      (pss_cons (ps_asg (pe_op op_add (pe_ix (ixL K) (pv 0) pe_int (fun _ _ => rfl)) pe_int) (pg_sub (pv 0) pe_int set_list))
      (pss_cons (ps_set (i := 3) nd rfl (Or.inl rfl) (pe_ix (ixL K) (pe_lst (pa_cons pe_int (pa_cons pe_int (pa_cons pe_int (pa_cons pe_int (pa_cons pe_int pa_nil)))))) (pe_op op_mod (pe_ix (ixL K) (pv 0) pe_int (fun _ _ => rfl)) pe_int) (fun _ _ => rfl)))
      (pss_cons (ps_set (i := 4) nd rfl (Or.inl rfl) (pe_op op_mod (pe_op op_pow (pe_op op_add (pe_op op_add (pe_ix (ixL K) (pv 0) pe_int (fun _ _ => rfl)) (pe_op op_mul (pe_op op_mul pe_int (pe_ix (ixL K) (pv 0) pe_int (fun _ _ => rfl))) (pe_ix (ixL K) (pv 0) pe_int (fun _ _ => rfl)))) pe_int) pe_int) (pv 3)))
      (pss_one (ps_ret (pe_op op_mod (pe_op op_fdiv (pe_op op_mod (pe_op op_mul (pv 4) (pe_op op_add (pe_op op_mod (pv 4) pe_int) (pe_op op_mul pe_int (pe_ix (ixL K) (pv 0) pe_int (fun _ _ => rfl))))) pe_int) pe_int) (pv 1))))))), ?_⟩
    have hmp : (0 : Int) < (m : Int) := by omega
    have u0 : ∀ {σ : L2.St} {H1 : Hp} {a b c : Int}, σ[0]? = some (some (.ref l)) → H1 l = some (.lst [.int a, .int b, .int c]) → EvD (tOp (rIxL K) (tVar 0) (tC (.int 0))) σ H1 (.int a) := fun hs h => evd_at hs (sq_of h) evd_int atI_0 fun _ _ => .int _
    have u1 : ∀ {σ : L2.St} {H1 : Hp} {a b c : Int}, σ[0]? = some (some (.ref l)) → H1 l = some (.lst [.int a, .int b, .int c]) → EvD (tOp (rIxL K) (tVar 0) (tC (.int 1))) σ H1 (.int b) := fun hs h => evd_at hs (sq_of h) evd_int atI_1 fun _ _ => .int _
    have u2 : ∀ {σ : L2.St} {H1 : Hp} {a b c : Int}, σ[0]? = some (some (.ref l)) → H1 l = some (.lst [.int a, .int b, .int c]) → EvD (tOp (rIxL K) (tVar 0) (tC (.int 2))) σ H1 (.int c) := fun hs h => evd_at hs (sq_of h) evd_int (atI_nat (j := 2) rfl) fun _ _ => .int _
    have fin : ∀ x : Int, ∃ r : Nat, x % (m : Int) = (r : Int) ∧ r < m := fun x => by
      have h1 := Int.emod_nonneg x (show (m : Int) ≠ 0 by omega)
      have h2 := Int.emod_lt_of_pos x hmp
      exact ⟨(x % (m : Int)).toNat, by omega, by omega⟩
    refine q_when (evt_B (evd_I0b (g := fun i j => decide (j < i)) (u0 rfl hl) evd_int)) (fun hb H1 e1 => ?_) (fun hb H1 e1 => ?_)
    · have hl1 := e1 _ _ hl
      obtain ⟨r, hr1, hr2⟩ := fin a
      refine q_asgR (evd_I (g := fun i j => i % j) (u0 rfl hl1) (evd_var (d := .int (m : Nat)) rfl (.int _)) hmp) fun vd H2 e2 rd => ?_
      rw [rd.int_inv, hr1]
      have hl2 := e2 _ _ hl1
      refine q_setL (xs := [.int a, .int b, .int c]) (v := .int (a / (m : Int))) (j := 0) hl2 (ev_int (evd_I (g := fun i j => i / j) (u0 rfl hl2) (evd_var (d := .int (m : Nat)) rfl (.int _)) ⟨hmp, by omega⟩)) (ev_ref rfl) (ev_int evd_int) (by show 0 < 3; decide) fun H3 e3 => ?_
      refine s_ret (v := .int (r : Int)) (ev_var rfl) fun H4 e4 => k r H4 hr2 (((ExB.of ((e1.trans e2).trans e3)).trans ExB.upd).trans (ExB.of e4)) ⟨a / (m : Int), b, c, e4 _ _ upd_same, hb0, hb1, hc0, by omega, by omega⟩
    · have hl1 := e1 _ _ hl
      refine q_setL (xs := [.int a, .int b, .int c]) (v := .int (c + 1)) (j := 2) hl1 (ev_int (evd_I0 (g := fun i j => i + j) (u2 rfl hl1) evd_int)) (ev_ref rfl) (ev_int evd_int) (by show 2 < 3; decide) fun H2 e2 => ?_
      have hl3 : upd H2 l (.lst ([V.int a, .int b, .int c].set 2 (.int (c + 1)))) l = some (.lst [.int a, .int b, .int (c + 1)]) := upd_same
      have eb3 : ExB l H (upd H2 l (.lst ([V.int a, .int b, .int c].set 2 (.int (c + 1))))) := (ExB.of (e1.trans e2)).trans ExB.upd
      generalize upd H2 l (.lst ([V.int a, .int b, .int c].set 2 (.int (c + 1)))) = H3 at hl3 eb3
      -- prime
      obtain ⟨pd, hpd, hpm⟩ := atI_in (xs := [PyData.int 2147483647, .int 2147483629, .int 2147483587, .int 2147483579, .int 2147483563]) (i := (c + 1) % 5) (Int.emod_nonneg _ (by decide)) (Int.emod_lt_of_pos _ (by decide))
      obtain ⟨pr, rfl, hp0, hp1⟩ : ∃ pr : Int, pd = .int pr ∧ 0 < pr ∧ pr < 2 ^ 31 := by
        simp only [List.mem_cons, List.not_mem_nil, or_false] at hpm
        rcases hpm with rfl | rfl | rfl | rfl | rfl <;> exact ⟨_, rfl, by decide, by decide⟩
      refine q_asgR (evd_ixL (ds := [PyData.int 2147483647, .int 2147483629, .int 2147483587, .int 2147483579, .int 2147483563]) (evld_lst (evds_cons evd_int (evds_cons evd_int (evds_cons evd_int (evds_cons evd_int (evds1 evd_int))))) (by show 5 ≤ 100000; decide)).ld (evd_I (g := fun i j => i % j) (u2 rfl hl3) evd_int (by decide)) hpd) fun vp H4 e4 rp => ?_
      rw [rp.int_inv]
      have hl4 := e4 _ _ hl3
      have hc3 : 0 ≤ c + 1 ∧ c + 1 ≤ 1000001 := by omega
      generalize hcc : c + 1 = cc at hl4 hc3
      have hcm : 0 ≤ 65537 * cc ∧ 65537 * cc ≤ 65537 * 1000001 := by omega
      have hcq : 0 ≤ 65537 * cc * cc ∧ 65537 * cc * cc ≤ 65537 * 1000001 * 1000001 := ⟨Int.mul_nonneg hcm.1 hc3.1, Int.mul_le_mul hcm.2 hc3.2 hc3.1 (by decide)⟩
      refine q_asgR (evd_I (g := fun i j => i % j) (j := pr) (evd_I (g := fun i j => i ^ j.toNat) (j := 3) (evd_I0 (g := fun i j => i + j) (evd_I0 (g := fun i j => i + j) (u1 rfl hl4) (evd_I (g := fun i j => i * j) (evd_I (g := fun i j => i * j) evd_int (u2 rfl hl4) (.inl (by decide))) (u2 rfl hl4) (.inl ⟨by omega, by omega⟩))) evd_int) evd_int ⟨by decide, by decide, by omega⟩) (evd_var rfl (.int _)) hp0) fun vm H5 e5 rm => ?_
      rw [rm.int_inv]
      have hl5 := e5 _ _ hl4
      have hx0 := Int.emod_nonneg ((b + 65537 * cc * cc + 43) ^ (3 : Int).toNat) (show pr ≠ 0 by omega)
      have hx1 := Int.emod_lt_of_pos ((b + 65537 * cc * cc + 43) ^ (3 : Int).toNat) hp0
      generalize (b + 65537 * cc * cc + 43) ^ (3 : Int).toNat % pr = mx at hx0 hx1
      obtain ⟨r, hr1, hr2⟩ := fin (mx * (mx % 10007 + 83 * cc) % 2305843009213693921 / 101)
      refine s_retR (R := Dt (.int (r : Nat))) ((evd_I (g := fun i j => i % j) (evd_I (g := fun i j => i / j) (evd_I (g := fun i j => i % j) (evd_I (g := fun i j => i * j) (evd_var (d := .int mx) rfl (.int _)) (evd_I0 (g := fun i j => i + j) (evd_I (g := fun i j => i % j) (evd_var (d := .int mx) rfl (.int _)) evd_int (by decide)) (evd_I (g := fun i j => i * j) evd_int (u2 rfl hl5) (.inl (by decide)))) (.inl ⟨by omega, by omega⟩)) evd_int (by decide)) evd_int ⟨by decide, by decide⟩) (evd_var (d := .int (m : Nat)) rfl (.int _)) hmp).is (by rw [hr1])) fun v H6 e6 rv => ?_
      rw [rv.int_inv]
      exact k r H6 hr2 (eb3.trans (ExB.of ((e4.trans e5).trans e6))) ⟨a, b, cc, e6 _ _ hl5, hb0, hb1, by omega, by omega, by omega⟩
/-- urn, some: an item -/
def spOf : Sp := fun vs H Q _ => ∃ (l s : Addr) (n : Nat) (xs : List V), vs = [.ref l, .ref s] ∧ UrnAt H l n ∧ n < 1000000 ∧ H s = some (.lst xs) ∧ s ≠ l ∧ 1 ≤ xs.length ∧ xs.length ≤ 1000 ∧ ∀ v H', v ∈ xs → ExB l H H' → UrnAt H' l (n + 1) → Q v H'
theorem scOf : FnScope ["_law_urn_here", "_law_some"] ["_law_urn_here", "_law_some"] (defScope sOf) := ⟨rfl, rfl, rfl, by decide +kernel, rfl, by decide +kernel, by decide +kernel⟩
theorem ok_of (T : Txt mg) (D1 : DefOk P w K mg base "_law_take" ["_law_urn_here", "_law_many"] 1 spTake) (h : Here K mg "_law_of" sOf ["_law_urn_here", "_law_some"]) : DefOk P w K mg base "_law_of" ["_law_urn_here", "_law_some"] 2 spOf := h.ok fun F => by
  refine F.ok scOf (fun vs H Q E h => ?_) (fun cdv A outer s H vs Q E hr h => ?_)
  · obtain ⟨l, s, n, xs, rfl, _⟩ := h
    rfl
  · obtain ⟨l, s, n, xs, rfl, u, hn, hs, hne, hx1, hx2, k⟩ := h
    refine ⟨_, pss_one (ps_ret (pe_ix (ixL K) (pv 1) (pe_def D1 hr rfl (pa_cons (pv 0) (pa_cons (pe_callB call_len_seq (by rfl) T.len PySem.boot_len (pa_cons (pv 1) pa_nil)) pa_nil)) pass0) (fun _ _ => rfl))), ?_⟩
    refine ⟨_, rfl, _, rfl, _, rfl, s, xs, rfl, .inl (SqL.of hs), l, n, xs.length, rfl, u, hn, hx1, by omega, fun r H' hr' eb uu => ?_⟩
    have hs' := eb _ _ hs hne
    exact ⟨s, xs, (r : Nat), xs[r], rfl, rfl, SqL.of hs', atI_nat (by rw [List.getElem?_eq_getElem hr']), k _ H' (List.getElem_mem hr') eb uu⟩
end
end RFW
end

section
set_option Elab.async false
set_option linter.all false
set_option maxRecDepth 100000
set_option maxHeartbeats 4000000
/-! the law's names, instruction, plan, box. -/
namespace RFW
open PySem L2 Evl RF
abbrev sNames : Stmt := top 32
abbrev sInstr : Stmt := top 33
abbrev sPlan : Stmt := top 34
abbrev sBox : Stmt := top 36
theorem call_listK {X : Cx} (K : PySem.W.Frag) (hK : X.K = K := by rfl) : CallR X (.type "list") (fun xs H Q => ∃ p ys, xs = [.ref p] ∧ (SqL K H p ys ∨ SqT K H p ys) ∧ ∀ l, H l = none → Q (.ref l) (upd H l (.lst ys))) := by subst hK; exact call_list_of
theorem call_tupleK {X : Cx} (K : PySem.W.Frag) (hK : X.K = K := by rfl) : CallR X (.type "tuple") (rTupOf K) := by subst hK; exact call_tuple_of
def names8 : List Str := ["x", "y", "z", "ab", "flag", "head", "q", "aaaa"]
abbrev strsV (ss : List Str) : List V := ss.map V.str
abbrev strsD (ss : List Str) : List PyData := ss.map PyData.str
theorem strs_td (H : Hp) : ∀ ss : List Str, TdAll H (strsV ss) (strsD ss)
  | [] => .nil
  | x :: r => .cons (.str x) (strs_td H r)
theorem seqIx {r n : Nat} (h : r < n) : seqIndex? (r : Int) n = some r := by
  have := PySem.seqIndex_of (k := (r : Int)) (n := n) (Int.natCast_nonneg _) (by omega)
  rw [this]
  rfl
/-- what the instructions name -/
def Names (p : P') (S : List Str) : Prop := ∀ t ∈ p, ∀ i ∈ t, ∀ x, i.var? = some x → x ∈ S
theorem strOk8 : ∀ x ∈ names8, PyData.strOk x = true := by decide +kernel
section
variable {P : Program} {w : World} {K : PySem.W.Frag} {mg : Str → Option Value} {base : Heap}
/-- urn, many: so many of the names -/
def spNames : Sp := fun vs H Q _ => ∃ (l : Addr) (n m : Nat), vs = [.ref l, .int (m : Int)] ∧ UrnAt H l n ∧ n + 8 ≤ 1000000 ∧ m ≤ 8 ∧
  ∀ (p : Addr) (ss : List Str) H', H p = none → ExB l H H' → UrnAt H' l (n + 8) → H' p = some (.lst (strsV ss)) → ss.length = m → (∀ x ∈ ss, x ∈ names8) → Q (.ref p) H'
theorem scNames : FnScope ["_law_urn_here", "_law_many", "_law_left", "_law_found"] ["_law_urn_here", "_law_many"] (defScope sNames) := ⟨rfl, rfl, rfl, by decide +kernel, rfl, by decide +kernel, by decide +kernel⟩
theorem ok_names (T : Txt mg) (D1 : DefOk P w K mg base "_law_take" ["_law_urn_here", "_law_many"] 1 spTake) (h : Here K mg "_law_names" sNames ["_law_urn_here", "_law_many"]) : DefOk P w K mg base "_law_names" ["_law_urn_here", "_law_many"] 2 spNames := h.ok fun F => by
  refine F.ok scNames (fun vs H Q E h => ?_) (fun cdv A outer s H vs Q E hr h => ?_)
  · obtain ⟨l, n, m, rfl, _⟩ := h
    rfl
  · obtain ⟨l, n, m, rfl, u, hn, hm, k⟩ := h
    have nd := scNames.nd
    refine ⟨_, pss_cons (ps_par (by rfl) nd (i := 2) (j := 3) rfl rfl (by decide) rfl rfl (pa_cons (pe_lst (pa_cons pe_str (pa_cons pe_str (pa_cons pe_str (pa_cons pe_str (pa_cons pe_str (pa_cons pe_str (pa_cons pe_str (pa_cons pe_str pa_nil))))))))) (pa_cons (pe_lst pa_nil) pa_nil)) (by rfl))
      (pss_cons (ps_while PassesOwn.never (pt_cmpR op_lt (pe_callB call_len_seq (by rfl) T.len PySem.boot_len (pa_cons (pv 3) pa_nil)) (pv 1) (nomark _))
        (pss_one (ps_expr (pe_bm PySem.F.plainAttrs_list PySem.F.slot_list_append PySem.F.type_list_append mt_append (pv 3) (pa_cons (pe_bm PySem.F.plainAttrs_list PySem.F.slot_list_pop PySem.F.type_list_pop mt_popAt (pv 2) (pa_cons (pe_def D1 hr rfl (pa_cons (pv 0) (pa_cons (pe_callB call_len_seq (by rfl) T.len PySem.boot_len (pa_cons (pv 2) pa_nil)) pa_nil)) pass0) pa_nil)) pa_nil)))))
      (pss_one (ps_ret (pv 3)))), ?_⟩
    refine ⟨by show 8 ≤ sizeLine; decide, fun L hL => ⟨by show 0 ≤ sizeLine; decide, fun F0 hF => ⟨_, _, rfl, ?_⟩⟩⟩
    have hLF : L ≠ F0 := fun z => by rw [← z, upd_same] at hF; cases hF
    have hFH : H F0 = none := by rw [upd_ne hLF.symm] at hF; exact hF
    have e0 : Ex H (upd (upd H L (.lst (strsV names8))) F0 (.lst [])) := (Ex.new hL).trans (Ex.new hF)
    have l0 : upd (upd H L (.lst (strsV names8))) F0 (.lst []) L = some (.lst (strsV names8)) := by rw [upd_ne hLF]; exact upd_same
    have f0 : upd (upd H L (.lst (strsV names8))) F0 (.lst []) F0 = some (.lst []) := upd_same
    show tSeq _ _ _ _ (upd (upd H L (.lst (strsV names8))) F0 (.lst []))
    generalize upd (upd H L (.lst (strsV names8))) F0 (.lst []) = H0 at e0 l0 f0
    obtain ⟨zs, hlz⟩ := u.lst
    have hlL : l ≠ L := ne_of_none hlz hL
    have hlF : l ≠ F0 := ne_of_none hlz hFH
    refine q_while (fun mm σ' H' => ∃ (ls ss : List Str), σ' = [some (.ref l), some (.int (m : Int)), some (.ref L), some (.ref F0)] ∧ ExB l H H' ∧ H' L = some (.lst (strsV ls)) ∧ H' F0 = some (.lst (strsV ss)) ∧ UrnAt H' l (n + ss.length) ∧ ls.length + ss.length = 8 ∧ ss.length ≤ m ∧ mm = m - ss.length ∧ (∀ x ∈ ls, x ∈ names8) ∧ ∀ x ∈ ss, x ∈ names8)
      m ⟨names8, [], rfl, ExB.of e0, l0, f0, u.ext e0, rfl, Nat.zero_le _, rfl, fun x h => h, fun x h => (by cases h)⟩ fun mm σ' H' ⟨ls, ss, es, eb, hl, hf, uu, h8, hsm, hmm, hn1, hn2⟩ => ?_
    subst es
    refine ⟨decide (ss.length < m), et_is (evt_B (evd_I0b (g := fun i j => decide (i < j)) (evd_of_int (ev_len (ev_ref rfl) (SqL.of hf))) (evd_var rfl (.int _)))) (by rw [List.length_map]; exact decide_eq_decide.mpr Int.ofNat_lt), fun hb H1 e1 => ?_, fun hb H1 e1 => ?_⟩
    · have hlt := of_decide_eq_true hb
      have hl1 := e1 _ _ hl
      have hf1 := e1 _ _ hf
      refine ⟨fun σ2 H2 => ∃ m', m' < mm ∧ ∃ (ls ss : List Str), σ2 = [some (.ref l), some (.int (m : Int)), some (.ref L), some (.ref F0)] ∧ ExB l H H2 ∧ H2 L = some (.lst (strsV ls)) ∧ H2 F0 = some (.lst (strsV ss)) ∧ UrnAt H2 l (n + ss.length) ∧ ls.length + ss.length = 8 ∧ ss.length ≤ m ∧ m' = m - ss.length ∧ (∀ x ∈ ls, x ∈ names8) ∧ ∀ x ∈ ss, x ∈ names8, fun _ _ h => h, ?_⟩
      refine ⟨_, rfl, Or.inl ⟨rfl, _, sq_of hf1⟩, _, rfl, Or.inl ⟨rfl, _, sq_of hl1⟩, _, rfl, _, rfl, L, _, rfl, .inl (SqL.of hl1), l, n + ss.length, ls.length, (by rw [List.length_map]; rfl), uu.ext e1, by omega, by omega, by omega, fun r H2 hr2 eb2 u2 => ?_⟩
      have hl2 := eb2 _ _ hl1 hlL.symm
      have hf2 := eb2 _ _ hf1 hlF.symm
      refine ⟨L, strsV ls, (r : Int), r, .str ls[r], rfl, rfl, hl2, by omega, by omega, seqIx (by rw [List.length_map]; exact hr2), by rw [List.getElem?_map, List.getElem?_eq_getElem hr2]; rfl, ?_⟩
      have hf3 : upd H2 L (.lst ((strsV ls).eraseIdx r)) F0 = some (.lst (strsV ss)) := by rw [upd_ne hLF.symm]; exact hf2
      refine ⟨F0, strsV ss, .str ls[r], rfl, rfl, hf3, by rw [List.length_map]; exact Nat.lt_of_le_of_lt (by omega : ss.length ≤ 8) (by decide), ?_⟩
      refine ⟨m - (ss.length + 1), by omega, ls.eraseIdx r, ss ++ [ls[r]], rfl, ?_, ?_, ?_, ?_, ?_, ?_, ?_, fun x hx => hn1 x (List.mem_of_mem_eraseIdx hx), fun x hx => ?_⟩
      · -- what stood stands
        intro a o ha hne
        have h1 := eb2 _ _ (e1 _ _ (eb a o ha hne)) hne
        rw [upd_ne (ne_of_none ha hFH), upd_ne (ne_of_none ha hL)]
        exact h1
      · rw [upd_ne hLF, upd_same]
        rw [eraseIdx_map']
      · rw [upd_same]
        unfold strsV
        rw [List.map_append]; rfl
      · rw [List.length_append, List.length_singleton]
        obtain ⟨a, b, c, q1, q2⟩ := u2.ex
        exact ⟨a, b, c, by rw [upd_ne hlF, upd_ne hlL]; exact q1, q2⟩
      · rw [List.length_append, List.length_singleton, List.length_eraseIdx_of_lt hr2]; omega
      · rw [List.length_append, List.length_singleton]; omega
      · rw [List.length_append, List.length_singleton]
      · rcases List.mem_append.mp hx with hx | hx
        · exact hn2 x hx
        · cases List.mem_singleton.mp hx
          exact hn1 _ (List.getElem_mem hr2)
    · have hge := of_decide_eq_false hb
      exact s_ret (v := .ref F0) (ev_ref rfl) fun H2 e2 => k F0 ss H2 hFH (eb.trans (ExB.of (e1.trans e2))) ((uu.ext (e1.trans e2)).mono (by omega) (by omega)) (e2 _ _ (e1 _ _ hf)) (by omega) hn2
/-- urn, names: an instruction -/
def spInstr : Sp := fun vs H Q _ => ∃ (l s : Addr) (n : Nat) (ss : List Str), vs = [.ref l, .ref s] ∧ UrnAt H l n ∧ n + 2 ≤ 1000000 ∧ H s = some (.lst (strsV ss)) ∧ s ≠ l ∧ 1 ≤ ss.length ∧ ss.length ≤ 1000 ∧
  ∀ (v : V) (i : I') H', ExB l H H' → UrnAt H' l (n + 2) → Td H' v (insD i) → (∀ x, i.var? = some x → x ∈ ss) → Q v H'
theorem scInstr : FnScope ["_law_urn_here", "_law_names_here", "_law_sort_of"] ["_law_urn_here", "_law_names_here"] (defScope sInstr) := ⟨rfl, rfl, rfl, by decide +kernel, rfl, by decide +kernel, by decide +kernel⟩
theorem ok_instr (T : Txt mg) (D1 : DefOk P w K mg base "_law_take" ["_law_urn_here", "_law_many"] 1 spTake) (D2 : DefOk P w K mg base "_law_of" ["_law_urn_here", "_law_some"] 2 spOf)
    (h : Here K mg "_law_instruction" sInstr ["_law_urn_here", "_law_names_here"]) : DefOk P w K mg base "_law_instruction" ["_law_urn_here", "_law_names_here"] 3 spInstr := h.ok fun F => by
  refine F.ok scInstr (fun vs H Q E h => ?_) (fun cdv A outer s H vs Q E hr h => ?_)
  · obtain ⟨l, s, n, ss, rfl, _⟩ := h
    rfl
  · obtain ⟨l, s, n, ss, rfl, u, hn, hs, hne, h1, h2, k⟩ := h
    have nd := scInstr.nd
    refine ⟨_, pss_cons (ps_set (i := 2) nd rfl (Or.inl rfl) (pe_def D1 (hr.mono (by decide)) rfl (pa_cons (pv 0) (pa_cons pe_int pa_nil)) pass0))
      (pss_cons (ps_if (pt_cmpR op_eq (pv 2) pe_int (nomark _)) (pss_one (ps_ret (pe_tup (pa_cons pe_str pa_nil)))) pss_nil)
      (pss_one (ps_ret (pe_tup (pa_cons (pe_ix (ixL K) (pe_lst (pa_cons pe_str (pa_cons pe_str (pa_cons pe_str pa_nil)))) (pe_op op_add (pe_callTy call_int1 (by rfl) T.int PyProof.Rows.boot_int (pa_cons (pe_cmpR op_gt (pv 2) pe_int (nomark _)) pa_nil)) (pe_callTy call_int1 (by rfl) T.int PyProof.Rows.boot_int (pa_cons (pe_cmpR op_gt (pv 2) pe_int (nomark _)) pa_nil))) (fun _ _ => rfl))
        (pa_cons (pe_def D2 hr rfl (pa_cons (pv 0) (pa_cons (pv 1) pa_nil)) pass0) pa_nil)))))), ?_⟩
    refine ⟨_, rfl, l, n, 12, rfl, u, by omega, by decide, by decide, fun r H1 hr1 eb1 u1 => ?_⟩
    have hs1 := eb1 _ _ hs hne
    show tSeq _ _ _ [some (.ref l), some (.ref s), some (.int (r : Int))] H1
    refine q_when (evt_B (evd_eqI (x := (r : Int)) (y := 11) (evd_var rfl (.int _)) evd_int)) (fun hb H2 e2 => ?_) (fun hb H2 e2 => ?_)
    · refine s_retR (evd_tup (ds := [.str "fence"]) (evds1 evd_str) (by show 1 ≤ 100000; decide)) fun v H3 e3 rv => k v .fence H3 (eb1.trans (ExB.of (e2.trans e3))) ((u1.ext (e2.trans e3)).mono (by omega) (by omega)) rv fun x hx => (by cases hx)
    · -- the sort
      have hk : ∃ kd : Kd, atI [PyData.str "store", .str "load", .str "swap"] ((if decide ((4 : Int) < (r : Int)) then 1 else 0) + (if decide ((9 : Int) < (r : Int)) then 1 else 0)) = some (.str (kdS kd)) := by
        cases decide ((4 : Int) < (r : Int)) <;> cases decide ((9 : Int) < (r : Int))
        · exact ⟨.store, rfl⟩
        · exact ⟨.load, rfl⟩
        · exact ⟨.load, rfl⟩
        · exact ⟨.swap, rfl⟩
      obtain ⟨kd, hkd⟩ := hk
      have ek : EvD (tOp (rIxL K) (tLst (tCons (tC (.str "store")) (tCons (tC (.str "load")) (tCons (tC (.str "swap")) tNil)))) (tOp (rI0 fun i j => .int (i + j)) (tCB rInt1 (tCons (tOp (rI0 fun i j => .bl (decide (j < i))) (tVar 2) (tC (.int 4))) tNil)) (tCB rInt1 (tCons (tOp (rI0 fun i j => .bl (decide (j < i))) (tVar 2) (tC (.int 9))) tNil)))) [some (.ref l), some (.ref s), some (.int (r : Int))] H2 (.str (kdS kd)) :=
        evd_ixL (evld_lst (ds := [PyData.str "store", .str "load", .str "swap"]) (evds_cons evd_str (evds_cons evd_str (evds1 evd_str))) (by show 3 ≤ 100000; decide)).ld (evd_I0 (g := fun i j => i + j) (evd_intb (evd_I0b (g := fun i j => decide (j < i)) (evd_var rfl (.int _)) evd_int)) (evd_intb (evd_I0b (g := fun i j => decide (j < i)) (evd_var rfl (.int _)) evd_int))) hkd
      refine ek H2 (Ex.refl _) _ fun v1 H3 e3 r1 => ?_
      have e23 := e2.trans e3
      have hs3 := e23 _ _ hs1
      refine ⟨_, rfl, _, rfl, l, s, n + 1, strsV ss, rfl, u1.ext e23, by omega, hs3, hne, by rw [List.length_map]; exact h1, by rw [List.length_map]; exact h2, fun v2 H4 hv2 eb4 u4 => ?_⟩
      obtain ⟨x, hx, rfl⟩ := List.mem_map.mp hv2
      refine ⟨by show 2 ≤ sizeLine; decide, fun p hp => k (.ref p) (.acc kd x) _ ((eb1.trans (ExB.of e23)).trans (eb4.trans (ExB.of (Ex.new hp)))) (u4.ext (Ex.new hp)) (.tup upd_same (by show 2 ≤ 100000; decide) ?_) fun y hy => by cases hy; exact hx⟩
      have tk : TK H3 (upd H4 p (.tup [v1, .str x])) := ((u1.ext e23).tk eb4).trans (TK.new hp)
      exact .cons (r1.keep tk) (.cons (.str x) .nil)
/-- urn: a box -/
def spBox : Sp := fun vs H Q _ => ∃ (l : Addr) (n : Nat), vs = [.ref l] ∧ UrnAt H l n ∧ n + 2 ≤ 1000000 ∧
  ∀ (v : V) (line : Bool) (room : Nat) H', ExB l H H' → UrnAt H' l (n + 2) → Td H' v (boxD line room) → 1 ≤ room → Q v H'
theorem scBox : FnScope ["_law_urn_here"] ["_law_urn_here"] (defScope sBox) := ⟨rfl, rfl, rfl, by decide +kernel, rfl, by decide +kernel, by decide +kernel⟩
theorem ok_box (T : Txt mg) (D2 : DefOk P w K mg base "_law_of" ["_law_urn_here", "_law_some"] 2 spOf) (h : Here K mg "_law_box" sBox ["_law_urn_here"]) : DefOk P w K mg base "_law_box" ["_law_urn_here"] 3 spBox := h.ok fun F => by
  refine F.ok scBox (fun vs H Q E h => ?_) (fun cdv A outer s H vs Q E hr h => ?_)
  · obtain ⟨l, n, rfl, _⟩ := h
    rfl
  · obtain ⟨l, n, rfl, u, hn, k⟩ := h
    refine ⟨_, pss_one (ps_ret (pe_tup (pa_cons (pe_def D2 hr rfl (pa_cons (pv 0) (pa_cons (pe_lst (pa_cons pe_str (pa_cons pe_str pa_nil))) pa_nil)) pass0) (pa_cons (pe_def D2 hr rfl (pa_cons (pv 0) (pa_cons (pe_lst (pa_cons pe_int (pa_cons pe_int (pa_cons pe_int (pa_cons pe_int (pa_cons pe_int pa_nil)))))) pa_nil)) pass0) pa_nil)))), ?_⟩
    obtain ⟨zs, hlz⟩ := u.lst
    refine ⟨_, rfl, by show 2 ≤ sizeLine; decide, fun p hp => ⟨l, p, n, [.str "line", .str "lanes"], rfl, u.ext (Ex.new hp), by omega, upd_same, (ne_of_none hlz hp).symm, by show 1 ≤ 2; decide, by show 2 ≤ 1000; decide, fun v1 H1 hv1 eb1 u1 => ?_⟩⟩
    have E1 : ExB l H H1 := (ExB.of (Ex.new hp)).trans eb1
    obtain ⟨ws, hlw⟩ := u1.lst
    refine ⟨_, rfl, by show 5 ≤ sizeLine; decide, fun q hq => ⟨l, q, n + 1, [.int 1, .int 2, .int 3, .int 4, .int 16], rfl, u1.ext (Ex.new hq), by omega, upd_same, (ne_of_none hlw hq).symm, by show 1 ≤ 5; decide, by show 5 ≤ 1000; decide, fun v2 H2 hv2 eb2 u2 => ?_⟩⟩
    have E2 : ExB l H H2 := E1.trans ((ExB.of (Ex.new hq)).trans eb2)
    obtain ⟨line, hw⟩ : ∃ line, v1 = .str (wordS line) := by
      rcases List.mem_cons.mp hv1 with rfl | h
      · exact ⟨true, rfl⟩
      · cases List.mem_singleton.mp h; exact ⟨false, rfl⟩
    obtain ⟨room, hrm, h1⟩ : ∃ room : Nat, v2 = .int (room : Int) ∧ 1 ≤ room := by
      simp only [List.mem_cons, List.not_mem_nil, or_false] at hv2
      rcases hv2 with rfl | rfl | rfl | rfl | rfl
      · exact ⟨1, rfl, by decide⟩
      · exact ⟨2, rfl, by decide⟩
      · exact ⟨3, rfl, by decide⟩
      · exact ⟨4, rfl, by decide⟩
      · exact ⟨16, rfl, by decide⟩
    subst hw hrm
    exact ⟨by show 2 ≤ sizeLine; decide, fun t ht => k (.ref t) line room _ (E2.trans (ExB.of (Ex.new ht))) (u2.ext (Ex.new ht)) (.tup upd_same (by show 2 ≤ 100000; decide) (.cons (.str _) (.cons (.int _) .nil))) h1⟩
end
/-- [instruction(urn, names) for turn in range(m)] -/
theorem instr_lc {σ : L2.St} {ws : List Nat} {j a b m n : Nat} {l s : Addr} {ss : List Str} {H1 : Hp} {D : Addr} {Qd : Hp → Prop} (hD : H1 D = none) (hm : m ≤ 100) (u : UrnAt H1 l n) (h6 : n + 2 * m ≤ 1000000) (hs : H1 s = some (.lst (strsV ss))) (hsl : s ≠ l) (h1 : 1 ≤ ss.length) (h2 : ss.length ≤ 1000)
    (ha : ∀ x, ((wipe σ ws).set j (some x))[a]? = some (some (.ref l))) (hb : ∀ x, ((wipe σ ws).set j (some x))[b]? = some (some (.ref s))) (hw : ∀ x, wipe ((wipe σ ws).set j (some x)) ws = wipe σ ws)
    (k : ∀ (vs : List V) (is : List I') H2, ExB l H1 H2 → UrnAt H2 l (n + 2 * m) → H2 D = some (.lst vs) → TdAll H2 vs (is.map insD) → is.length = m → (∀ i ∈ is, ∀ x, i.var? = some x → x ∈ ss) → Qd H2) :
    ∃ W : Nat → Nat → Hp → Prop, (∃ m', W 0 m' (upd H1 D (.lst []))) ∧ ∀ i m' H, W i m' H → ((Itr 0 m).stop i H ∧ Qd H) ∨ ((Itr 0 m).go i H ∧ ∃ Nx : Hp → Prop, (∀ H', Nx H' → ∃ m'', m'' < m' ∧ W (i + 1) m'' H') ∧
      ∀ x H', (Itr 0 m).yld i H x H' → gName j x (wipe σ ws) H' fun σ2 H2 => wipe σ2 ws = wipe σ ws ∧ tYes σ2 H2 fun b' H3 => if b' = true then tCall spInstr [] E0 (tCons (tVar a) (tCons (tVar b) tNil)) σ2 H3 fun y H4 => ∃ acc, H4 D = some (.lst acc) ∧ acc.length < sizeLine ∧ Nx (upd H4 D (.lst (acc ++ [y]))) else Nx H3) := by
  obtain ⟨zs, hlz⟩ := u.lst
  have hlD : l ≠ D := ne_of_none hlz hD
  have hsD : s ≠ D := ne_of_none hs hD
  refine lc_range (lo := 0) (n := m) (fun i H' => ∃ (acc : List V) (is : List I'), H' D = some (.lst acc) ∧ TdAll H' acc (is.map insD) ∧ is.length = i ∧ ExB l H1 H' ∧ UrnAt H' l (n + 2 * i) ∧ ∀ i ∈ is, ∀ x, i.var? = some x → x ∈ ss)
    ⟨[], [], upd_same, .nil, rfl, ExB.of (Ex.new hD), u.ext (Ex.new hD), fun _ h => (by cases h)⟩ (fun i H' hi ⟨acc, is, hD', hacc, hlen, eb, uu, hn⟩ => ?_) fun H' ⟨acc, is, hD', hacc, hlen, eb, uu, hn⟩ => k acc is H' eb uu hD' hacc hlen hn
  refine ⟨hw _, ?_⟩
  show tYes _ H' _
  refine ⟨_, ha _, _, hb _, l, s, n + 2 * i, ss, rfl, uu, by omega, eb _ _ hs hsl, hsl, h1, h2, fun v ii H2 eb2 u2 r hx => ?_⟩
  have hD2 := eb2 _ _ hD' hlD.symm
  have tk2 : TK H' H2 := uu.tk eb2
  have tk3 : TK H2 (upd H2 D (.lst (acc ++ [v]))) := TK.lst hD2
  have hal := hacc.length
  rw [List.length_map] at hal
  refine ⟨acc, hD2, Nat.lt_of_le_of_lt (by omega : acc.length ≤ 100) (by decide), acc ++ [v], is ++ [ii], upd_same, ?_, by rw [List.length_append, List.length_singleton, hlen], fun a' o ha' hne => ?_, ?_, fun y hy => ?_⟩
  · rw [List.map_append]
    exact ((hacc.keep tk2).keep tk3).append (.one (r.keep tk3))
  · rw [upd_ne (ne_of_none ha' hD)]
    exact eb2 _ _ (eb a' o ha' hne) hne
  · obtain ⟨a1, b1, c1, q1, q2, q3, q4, q5, q6⟩ := u2.ex
    exact ⟨a1, b1, c1, by rw [upd_ne hlD]; exact q1, q2, q3, q4, by omega, by omega⟩
  · rcases List.mem_append.mp hy with hy | hy
    · exact hn y hy
    · cases List.mem_singleton.mp hy; exact hx
section
variable {P : Program} {w : World} {K : PySem.W.Frag} {mg : Str → Option Value} {base : Heap}
/-- urn, threads, most, names_most: a program -/
def spPlan : Sp := fun vs H Q _ => ∃ (l : Addr) (n a b c : Nat), vs = [.ref l, .int (a : Int), .int (b : Int), .int (c : Int)] ∧ UrnAt H l n ∧ n + 60 ≤ 1000000 ∧ 1 ≤ a ∧ a ≤ 3 ∧ b ≤ 5 ∧ 1 ≤ c ∧ c ≤ 3 ∧
  ∀ (v : V) (p : P') H', ExB l H H' → UrnAt H' l (n + 60) → Td H' v (progD p) → 1 ≤ p.length → p.length ≤ a → (∀ t ∈ p, t.length ≤ b) → Names p names8 → Q v H'
theorem scPlan : FnScope ["_law_urn_here", "_law_threads", "_law_most", "_law_names_most", "_law_names_here", "_law_found", "_law_thread", "_law_turn"] ["_law_urn_here", "_law_threads", "_law_most", "_law_names_most"] (defScope sPlan) := ⟨rfl, rfl, rfl, by decide +kernel, rfl, by decide +kernel, by decide +kernel⟩
theorem ok_plan (T : Txt mg) (D1 : DefOk P w K mg base "_law_take" ["_law_urn_here", "_law_many"] 1 spTake) (D2 : DefOk P w K mg base "_law_names" ["_law_urn_here", "_law_many"] 2 spNames) (D3 : DefOk P w K mg base "_law_instruction" ["_law_urn_here", "_law_names_here"] 3 spInstr)
    (h : Here K mg "_law_plan" sPlan ["_law_urn_here", "_law_threads", "_law_most", "_law_names_most"]) : DefOk P w K mg base "_law_plan" ["_law_urn_here", "_law_threads", "_law_most", "_law_names_most"] 4 spPlan := h.ok fun F => by
  refine F.ok scPlan (fun vs H Q E h => ?_) (fun cdv A outer s H vs Q E hr h => ?_)
  · obtain ⟨l, n, a, b, c, rfl, _⟩ := h
    rfl
  · obtain ⟨l, n, a, b, c, rfl, u, hn, ha1, ha3, hb5, hc1, hc3, k⟩ := h
    have nd := scPlan.nd
    refine ⟨_, pss_cons (ps_set (i := 4) nd rfl (Or.inr rfl) (pe_def D2 (hr.mono (by decide)) rfl (pa_cons (pv 0) (pa_cons (pe_op op_add pe_int (pe_def D1 (hr.mono (by decide)) rfl (pa_cons (pv 0) (pa_cons (pv 3) pa_nil)) pass0)) pa_nil)) pass0))
      (pss_cons (ps_set (i := 5) nd rfl (Or.inl rfl) (pe_lst pa_nil))
      (pss_cons (ps_for PassesOwn.never rfl (pi_range1 rfl T.range (pa_cons (pe_op op_add pe_int (pe_def D1 (hr.mono (by decide)) rfl (pa_cons (pv 0) (pa_cons (pv 1) pa_nil)) pass0)) pa_nil)) (pg_name (i := 6) nd rfl (.inl rfl))
        (pss_one (ps_expr (pe_bm PySem.F.plainAttrs_list PySem.F.slot_list_append PySem.F.type_list_append mt_append (pv 5) (pa_cons (pe_callTy call_tuple_of (by rfl) T.tuple PyProof.Rows.boot_tuple (pa_cons
          (pe_lc (own := [("_law_turn", 7)]) (g := gName 7) (tt := tYes) rfl nd (pi_range1 rfl T.range (pa_cons (pe_def D1 (hr.mono (by decide)) rfl (pa_cons (pv 0) (pa_cons (pe_op op_add (pv 2) pe_int) pa_nil)) pass0) pa_nil)) (blkOk_by (N := ["_law_urn_here", "_law_threads", "_law_most", "_law_names_most", "_law_names_here", "_law_found", "_law_thread", "_law_turn"]) (sc := defScope sPlan) (by decide +kernel))
            (fun _ _ _ _ _ => pg_name (i := 7) nd rfl (Or.inl rfl)) (fun _ _ _ _ _ => pts_nil) (fun _ _ _ _ _ => pe_def D3 hr rfl (pa_cons (pv 0) (pa_cons (pv 4) pa_nil)) pass0)) pa_nil)) pa_nil)))))
      (pss_one (ps_ret (pe_callTy call_tuple_of (by rfl) T.tuple PyProof.Rows.boot_tuple (pa_cons (pv 5) pa_nil)))))), ?_⟩
    -- names
    refine ⟨_, rfl, _, rfl, _, rfl, l, n, c, rfl, u, by omega, hc1, by omega, fun r0 H1 hr0 eb1 u1 => ⟨_, _, rfl, rfl, l, n + 1, 1 + r0, ?_, u1, by omega, by omega, fun s ss H2 hs1 eb2 u2 hs2 hsl hsn => ?_⟩⟩
    · show [V.ref l, .int (1 + (r0 : Int))] = [V.ref l, .int ((1 + r0 : Nat) : Int)]
      rw [Int.natCast_add]; rfl
    have E2 : ExB l H H2 := eb1.trans eb2
    obtain ⟨zs, hlz⟩ := u1.lst
    have hsl' : s ≠ l := (ne_of_none hlz hs1).symm
    show tSeq _ _ _ [some (.ref l), some (.int (a : Int)), some (.int (b : Int)), some (.int (c : Int)), some (.ref s), none, none, none] H2
    -- found
    refine ⟨by show 0 ≤ sizeLine; decide, fun F0 hF => ?_⟩
    have hFl : F0 ≠ l := by
      obtain ⟨zs, hlz⟩ := u2.lst
      exact (ne_of_none hlz hF).symm
    have hFs : F0 ≠ s := (ne_of_none hs2 hF).symm
    have e3 : Ex H2 (upd H2 F0 (.lst [])) := Ex.new hF
    have u3 := u2.ext e3
    have f3 : upd H2 F0 (.lst []) F0 = some (.lst []) := upd_same
    have s3 := e3 _ _ hs2
    show tSeq _ _ _ [some (.ref l), some (.int (a : Int)), some (.int (b : Int)), some (.int (c : Int)), some (.ref s), some (.ref F0), none, none] (upd H2 F0 (.lst []))
    generalize upd H2 F0 (.lst []) = H3 at e3 u3 f3 s3
    have hFH : H F0 = none := by
      cases e : H F0 with
      | none => rfl
      | some o => rw [E2 _ _ e hFl] at hF; cases hF
    -- the loop
    refine ⟨_, rfl, _, rfl, l, n + 1 + 8, a, rfl, u3, by omega, ha1, by omega, fun r1 H4 hr1 eb4 u4 => ⟨_, _, rfl, rfl, 1 + (r1 : Int), rfl, by omega, by omega, ?_⟩⟩
    have hcnt : (1 + (r1 : Int)).toNat = 1 + r1 := by omega
    have E4 : ExB l H H4 := (E2.trans (ExB.of e3)).trans eb4
    have f4 := eb4 _ _ f3 hFl
    have s4 := eb4 _ _ s3 hsl'
    show ∃ W, _
    rw [hcnt]
    refine for_range (lo := 0) (n := 1 + r1) (fun i σ' H' => ∃ (vs : List V) (p : P') (x6 : Option V), σ' = [some (.ref l), some (.int (a : Int)), some (.int (b : Int)), some (.int (c : Int)), some (.ref s), some (.ref F0), x6, none] ∧ ExB l H H' ∧ H' F0 = some (.lst vs) ∧ H' s = some (.lst (strsV ss)) ∧ TdAll H' vs (p.map thD) ∧ p.length = i ∧ (∀ t ∈ p, t.length ≤ b) ∧ Names p names8 ∧ UrnAt H' l (n + 10 + 11 * i))
      ⟨[], [], none, rfl, E4, f4, s4, .nil, rfl, fun _ h => (by cases h), fun _ h => (by cases h), u4⟩ (fun i σ' H' hi ⟨vs, p, x6, es, eb, hf, hs', hvs, hpl, hpb, hpn, uu⟩ => ?_) (fun σ' H' ⟨vs, p, x6, es, eb, hf, hs', hvs, hpl, hpb, hpn, uu⟩ => ?_)
    · subst es
      refine ⟨_, rfl, Or.inl ⟨rfl, _, sq_of hf⟩, ?_⟩
      -- tuple([..])
      refine ⟨_, rfl, _, rfl, _, _, rfl, rfl, l, n + 10 + 11 * i, b + 1, ?_, uu, by omega, by omega, by omega, fun r2 H5 hr2 eb5 u5 => ⟨(r2 : Int), rfl, by omega, by omega, ?_⟩⟩
      · show [V.ref l, .int ((b : Int) + 1)] = [V.ref l, .int ((b + 1 : Nat) : Int)]
        rfl
      have f5 := eb5 _ _ hf hFl
      have s5 := eb5 _ _ hs' hsl'
      intro D hD
      refine (instr_lc (σ := [some (.ref l), some (.int (a : Int)), some (.int (b : Int)), some (.int (c : Int)), some (.ref s), some (.ref F0), some (.int ((0 : Int) + (i : Nat))), none]) (j := 7) (a := 0) (b := 4) (m := r2) (ws := [7]) hD (by omega) u5 (by omega) s5 hsl' (by omega) (by omega) (fun x => rfl) (fun x => rfl) (fun x => rfl) fun acc is H6 eb6 u6 hD6 hacc hil hin => ?_)
      have hDF : D ≠ F0 := (ne_of_none f5 hD).symm
      have f6 := eb6 _ _ f5 hFl
      have s6 := eb6 _ _ s5 hsl'
      refine ⟨D, acc, rfl, .inl ⟨SqL.of hD6, fun tt htt => ?_⟩⟩
      have e7 : Ex H6 (upd H6 tt (.tup acc)) := Ex.new htt
      have f7 := e7 _ _ f6
      have hal := hacc.length
      rw [List.length_map] at hal
      have hvl := hvs.length
      rw [List.length_map] at hvl
      have tt7 : Td (upd H6 tt (.tup acc)) (.ref tt) (thD is) := .tup upd_same (by omega) (hacc.ex e7)
      refine ⟨F0, vs, .ref tt, rfl, rfl, f7, Nat.lt_of_le_of_lt (by omega : vs.length ≤ 100) (by decide), vs ++ [.ref tt], p ++ [is], _, rfl, ?_, upd_same, ?_, ?_, ?_, ?_, ?_, ?_⟩
      · intro x o hx hne
        rw [upd_ne (ne_of_none hx hFH)]
        exact e7 _ _ (eb6 _ _ (eb5 _ _ (eb x o hx hne) hne) hne)
      · rw [upd_ne hFs.symm]; exact e7 _ _ s6
      · have tk8 : TK (upd H6 tt (.tup acc)) (upd (upd H6 tt (.tup acc)) F0 (.lst (vs ++ [.ref tt]))) := TK.lst f7
        rw [List.map_append]
        exact (((((hvs.keep (uu.tk eb5)).keep (u5.tk eb6)).ex e7).keep tk8)).append (.one (tt7.keep tk8))
      · rw [List.length_append, List.length_singleton, hpl]
      · intro t ht
        rcases List.mem_append.mp ht with ht | ht
        · exact hpb t ht
        · cases List.mem_singleton.mp ht; omega
      · intro t ht
        rcases List.mem_append.mp ht with ht | ht
        · exact hpn t ht
        · cases List.mem_singleton.mp ht
          exact fun y hy x hx => hsn x (hin y hy x hx)
      · have u7 := u6.ext e7
        obtain ⟨a1, b1, c1, q1, q2, q3, q4, q5, q6⟩ := u7.ex
        exact ⟨a1, b1, c1, by rw [upd_ne hFl.symm]; exact q1, q2, q3, q4, by omega, by omega⟩
    · subst es
      refine ⟨_, rfl, F0, vs, rfl, .inl ⟨SqL.of hf, fun tt htt => ?_⟩⟩
      have e7 : Ex H' (upd H' tt (.tup vs)) := Ex.new htt
      have hvl := hvs.length
      rw [List.length_map] at hvl
      exact k (.ref tt) p _ (eb.trans (ExB.of e7)) ((uu.ext e7).mono (by omega) (by omega)) (.tup upd_same (by omega) (hvs.ex e7)) (by omega) (by omega) hpb hpn
end
end RFW
end

section
set_option Elab.async false
set_option linter.all false
set_option maxRecDepth 100000
set_option maxHeartbeats 4000000
/-! the law's near. -/
namespace RFW
open PySem L2 Evl RF
abbrev sNear : Stmt := top 35
def near1 (x y z : Str) : P' := [[.acc .store x, .acc .load y], [.acc .store y, .acc .load x]]
def near2 (x y z : Str) : P' := [[.acc .store x, .acc .store y], [.acc .load y, .acc .load x]]
def near3 (x y z : Str) : P' := [[.acc .store x, .acc .load y], [.acc .store y], [.acc .load y, .acc .load x]]
def near4 (x y z : Str) : P' := [[.acc .store x, .acc .load y], [.acc .store y, .acc .store x]]
def near5 (x y z : Str) : P' := [[.acc .store x, .acc .load y], [.acc .store y, .acc .load z], [.acc .store z, .acc .load x]]
def near6 (x y z : Str) : P' := [[.acc .store x, .acc .store y], [.acc .store y, .acc .store x]]
def nears (x y z : Str) : List P' := [near1 x y z, near2 x y z, near3 x y z, near4 x y z, near5 x y z, near6 x y z]
theorem near_all (Pr : P' → Prop) {x y z : Str} (h1 : Pr (near1 x y z)) (h2 : Pr (near2 x y z)) (h3 : Pr (near3 x y z)) (h4 : Pr (near4 x y z)) (h5 : Pr (near5 x y z)) (h6 : Pr (near6 x y z)) : ∀ p ∈ nears x y z, Pr p := by
  intro p hp
  simp only [nears, List.mem_cons, List.not_mem_nil, or_false] at hp
  rcases hp with rfl | rfl | rfl | rfl | rfl | rfl <;> assumption
theorem nears_ok (x y z : Str) : ∀ p ∈ nears x y z, 1 ≤ p.length ∧ p.length ≤ 3 ∧ ∀ t ∈ p, t.length ≤ 2 := by
  refine near_all _ ?_ ?_ ?_ ?_ ?_ ?_ <;> refine ⟨by simp [near1, near2, near3, near4, near5, near6], by simp [near1, near2, near3, near4, near5, near6], fun t ht => ?_⟩ <;> simp only [near1, near2, near3, near4, near5, near6, List.mem_cons, List.not_mem_nil, or_false] at ht <;> first | (rcases ht with rfl | rfl | rfl <;> simp) | (rcases ht with rfl | rfl <;> simp)
theorem nears_names {S : List Str} {x y z : Str} (hx : x ∈ S) (hy : y ∈ S) (hz : z ∈ S) : ∀ p ∈ nears x y z, Names p S := by
  have key : ∀ (p : P'), (∀ t ∈ p, ∀ i ∈ t, i.var? = some x ∨ i.var? = some y ∨ i.var? = some z) → Names p S := fun p h t ht i hi w hw => by
    rcases h t ht i hi with h | h | h <;> (rw [h] at hw; cases hw; assumption)
  refine near_all _ ?_ ?_ ?_ ?_ ?_ ?_ <;> refine key _ fun t ht i hi => ?_ <;> simp only [near1, near2, near3, near4, near5, near6, List.mem_cons, List.not_mem_nil, or_false] at ht <;>
    first | (rcases ht with rfl | rfl | rfl <;> simp only [List.mem_cons, List.not_mem_nil, or_false] at hi <;> first | (rcases hi with rfl | rfl <;> simp [Ins.var?]) | (subst hi; simp [Ins.var?])) | (rcases ht with rfl | rfl <;> simp only [List.mem_cons, List.not_mem_nil, or_false] at hi <;> first | (rcases hi with rfl | rfl <;> simp [Ins.var?]) | (subst hi; simp [Ins.var?]))
section
variable {K : PySem.W.Frag} {σ : L2.St} {H : Hp} {tA : TA}
theorem e2 (kd : Kd) {i : Nat} {v : V} {x : Str} (hs : σ[i]? = some (some v)) (hv : Td H v (.str x)) : EvD (tTup (tCons (tC (.str (kdS kd))) (tCons (tVar i) tNil))) σ H (insD (.acc kd x)) := evd_tup (ds := [.str (kdS kd), .str x]) (evds_cons evd_str (evds1 (evd_var hs hv))) (by show 2 ≤ 100000; decide)
theorem eT {is : List I'} (hl : is.length ≤ 100) (h : EvDs tA σ H (is.map insD)) : EvD (tTup tA) σ H (thD is) := evd_tup h (by rw [List.length_map]; omega)
theorem eP {p : P'} (hl : p.length ≤ 100) (h : EvDs tA σ H (p.map thD)) : EvD (tTup tA) σ H (progD p) := evd_tup h (by rw [List.length_map]; omega)
end
/-- a list of instructions -/
def ThAt (H : Hp) (a : Addr) (t : T') : Prop := ∃ vs, H a = some (.lst vs) ∧ TdAll H vs (t.map insD)
/-- lists of instructions, all else set apart -/
structure FAt (H : Hp) (F : Addr) (as : List Addr) (p : P') : Prop where
  at' : H F = some (.lst (as.map V.ref))
  len : as.length = p.length
  th : ∀ (k : Nat) (a : Addr) (t : T'), as[k]? = some a → p[k]? = some t → ThAt H a t
theorem FAt.keep {H H' : Hp} {F : Addr} {as : List Addr} {p : P'} (f : FAt H F as p) (tk : TK H H') (hF : H' F = H F) (ha : ∀ a ∈ as, H' a = H a) : FAt H' F as p := ⟨by rw [hF]; exact f.at', f.len, fun k a t h1 h2 => by
  obtain ⟨vs, h3, h4⟩ := f.th k a t h1 h2
  exact ⟨vs, by rw [ha a (List.mem_of_getElem? h1)]; exact h3, h4.keep tk⟩⟩
theorem FAt.ext {H H' : Hp} {F : Addr} {as : List Addr} {p : P'} (f : FAt H F as p) (e : Ex H H') : FAt H' F as p := ⟨e _ _ f.at', f.len, fun k a t h1 h2 => by
  obtain ⟨vs, h3, h4⟩ := f.th k a t h1 h2
  exact ⟨vs, e _ _ h3, h4.ex e⟩⟩
theorem FAt.exb {H H' : Hp} {F l : Addr} {as : List Addr} {p : P'} {n : Nat} (f : FAt H F as p) (u : UrnAt H l n) (e : ExB l H H') (hF : F ≠ l) (ha : ∀ a ∈ as, a ≠ l) : FAt H' F as p := ⟨e _ _ f.at' hF, f.len, fun k a t h1 h2 => by
  obtain ⟨vs, h3, h4⟩ := f.th k a t h1 h2
  exact ⟨vs, e _ _ h3 (ha a (List.mem_of_getElem? h1)), h4.keep (u.tk e)⟩⟩
/-- one of the lists is changed -/
theorem FAt.put {H : Hp} {F : Addr} {as : List Addr} {p : P'} (f : FAt H F as p) (nd : as.Nodup) (hF : F ∉ as) {k : Nat} {a : Addr} {t t' : T'} {vs' : List V} (h1 : as[k]? = some a) (h2 : p[k]? = some t) (hv : TdAll H vs' (t'.map insD)) : FAt (upd H a (.lst vs')) F as (p.set k t') := by
  obtain ⟨vs, h3, h4⟩ := f.th k a t h1 h2
  have tk : TK H (upd H a (.lst vs')) := TK.lst h3
  have hFa : F ≠ a := fun z => hF (by rw [z]; exact List.mem_of_getElem? h1)
  refine ⟨by rw [upd_ne hFa]; exact f.at', by rw [List.length_set]; exact f.len, fun j b u hb hu => ?_⟩
  by_cases e : j = k
  · subst e
    rw [h1] at hb; cases hb
    have : (p.set j t')[j]? = some t' := by
      rw [List.getElem?_set_self]
      exact (List.getElem?_eq_some_iff.mp h2).1
    rw [this] at hu; cases hu
    exact ⟨vs', upd_same, hv.keep tk⟩
  · rw [List.getElem?_set_ne (fun z => e z.symm)] at hu
    obtain ⟨ws, h5, h6⟩ := f.th j b u hb hu
    have hba : b ≠ a := fun z => by
      obtain ⟨j1, j2⟩ := List.getElem?_eq_some_iff.mp hb
      obtain ⟨k1, k2⟩ := List.getElem?_eq_some_iff.mp h1
      exact e ((List.getElem_inj (h₀ := j1) (h₁ := k1) nd).mp (j2.trans (z.trans k2.symm)))
    exact ⟨ws, by rw [upd_ne hba]; exact h5, h6.keep tk⟩
theorem lay_list {α : Type} {D : α → PyData} {n : Nat} {xs : List α} (h : ∀ x ∈ xs, PyData.canLay0 (D x) = true ∧ (D x).depth ≤ n) : PyData.canLay0 (.list (xs.map D)) = true ∧ (PyData.list (xs.map D)).depth ≤ n + 1 := by
  have k := lay_map h
  constructor
  · rw [PyData.canLay0]; exact k.1
  · rw [PyData.depth]; omega
section
variable {P : Program} {w : World} {K : PySem.W.Frag} {mg : Str → Option Value} {base : Heap}
/-- urn -/
def spNear : Sp := fun vs H Q _ => ∃ (l : Addr) (n : Nat), vs = [.ref l] ∧ UrnAt H l n ∧ n + 40 ≤ 1000000 ∧
  ∀ (v : V) (p : P') H', ExB l H H' → UrnAt H' l (n + 40) → Td H' v (progD p) → 1 ≤ p.length → p.length ≤ 3 → (∀ t ∈ p, t.length ≤ 6) → Names p names8 → Q v H'
theorem scNear : FnScope ["_law_urn_here", "_law_names_here", "_law_x", "_law_y", "_law_z", "_law_some", "_law_thread", "_law_found", "_law_turn", "_law_at"] ["_law_urn_here"] (defScope sNear) := ⟨rfl, rfl, rfl, by decide +kernel, rfl, by decide +kernel, by decide +kernel⟩
theorem ok_near (T : Txt mg) (D1 : DefOk P w K mg base "_law_take" ["_law_urn_here", "_law_many"] 1 spTake) (D0 : DefOk P w K mg base "_law_of" ["_law_urn_here", "_law_some"] 2 spOf) (D2 : DefOk P w K mg base "_law_names" ["_law_urn_here", "_law_many"] 2 spNames) (D3 : DefOk P w K mg base "_law_instruction" ["_law_urn_here", "_law_names_here"] 3 spInstr)
    (h : Here K mg "_law_near" sNear ["_law_urn_here"]) : DefOk P w K mg base "_law_near" ["_law_urn_here"] 4 spNear := h.ok fun F => by
  refine F.ok scNear (fun vs H Q E h => ?_) (fun cdv A outer s H vs Q E hr h => ?_)
  · obtain ⟨l, n, rfl, _⟩ := h
    rfl
  · obtain ⟨l, n, rfl, u, hn, k⟩ := h
    have nd := scNear.nd
    have hu2 := hu65 hr
    have hu3 := Nat.lt_of_le_of_lt (Nat.add_le_add_left (by decide : 64 ≤ 65) _) hu2
    refine ⟨_, pss_cons (ps_set (i := 1) nd rfl (Or.inl rfl) (pe_def D2 (hr.mono (by decide)) rfl (pa_cons (pv 0) (pa_cons pe_int pa_nil)) pass0))
      (pss_cons (ps_asg (pe_slice sl_list (pv 1) po_none (po_some pe_int)) (pg_lst (by rfl) (pgs_cons (pg_name (i := 2) nd rfl (.inl rfl)) (pgs_cons (pg_name (i := 3) nd rfl (.inl rfl)) (pgs_cons (pg_name (i := 4) nd rfl (.inl rfl)) pgs_nil)))))
      (pss_cons (ps_set (i := 5) nd rfl (Or.inl rfl) (pe_lst (pa_cons (pe_tup (pa_cons (pe_tup (pa_cons (pe_tup (pa_cons pe_str (pa_cons (pv 2) pa_nil))) (pa_cons (pe_tup (pa_cons pe_str (pa_cons (pv 3) pa_nil))) pa_nil))) (pa_cons (pe_tup (pa_cons (pe_tup (pa_cons pe_str (pa_cons (pv 3) pa_nil))) (pa_cons (pe_tup (pa_cons pe_str (pa_cons (pv 2) pa_nil))) pa_nil))) pa_nil))) pa_nil)))
      (pss_cons (ps_expr (pe_bm PySem.F.plainAttrs_list PySem.F.slot_list_append PySem.F.type_list_append mt_append (pv 5) (pa_cons (pe_tup (pa_cons (pe_tup (pa_cons (pe_tup (pa_cons pe_str (pa_cons (pv 2) pa_nil))) (pa_cons (pe_tup (pa_cons pe_str (pa_cons (pv 3) pa_nil))) pa_nil))) (pa_cons (pe_tup (pa_cons (pe_tup (pa_cons pe_str (pa_cons (pv 3) pa_nil))) (pa_cons (pe_tup (pa_cons pe_str (pa_cons (pv 2) pa_nil))) pa_nil))) pa_nil))) pa_nil)))
      (pss_cons (ps_expr (pe_bm PySem.F.plainAttrs_list PySem.F.slot_list_append PySem.F.type_list_append mt_append (pv 5) (pa_cons (pe_tup (pa_cons (pe_tup (pa_cons (pe_tup (pa_cons pe_str (pa_cons (pv 2) pa_nil))) (pa_cons (pe_tup (pa_cons pe_str (pa_cons (pv 3) pa_nil))) pa_nil))) (pa_cons (pe_tup (pa_cons (pe_tup (pa_cons pe_str (pa_cons (pv 3) pa_nil))) pa_nil)) (pa_cons (pe_tup (pa_cons (pe_tup (pa_cons pe_str (pa_cons (pv 3) pa_nil))) (pa_cons (pe_tup (pa_cons pe_str (pa_cons (pv 2) pa_nil))) pa_nil))) pa_nil)))) pa_nil)))
      (pss_cons (ps_expr (pe_bm PySem.F.plainAttrs_list PySem.F.slot_list_append PySem.F.type_list_append mt_append (pv 5) (pa_cons (pe_tup (pa_cons (pe_tup (pa_cons (pe_tup (pa_cons pe_str (pa_cons (pv 2) pa_nil))) (pa_cons (pe_tup (pa_cons pe_str (pa_cons (pv 3) pa_nil))) pa_nil))) (pa_cons (pe_tup (pa_cons (pe_tup (pa_cons pe_str (pa_cons (pv 3) pa_nil))) (pa_cons (pe_tup (pa_cons pe_str (pa_cons (pv 2) pa_nil))) pa_nil))) pa_nil))) pa_nil)))
      (pss_cons (ps_expr (pe_bm PySem.F.plainAttrs_list PySem.F.slot_list_append PySem.F.type_list_append mt_append (pv 5) (pa_cons (pe_tup (pa_cons (pe_tup (pa_cons (pe_tup (pa_cons pe_str (pa_cons (pv 2) pa_nil))) (pa_cons (pe_tup (pa_cons pe_str (pa_cons (pv 3) pa_nil))) pa_nil))) (pa_cons (pe_tup (pa_cons (pe_tup (pa_cons pe_str (pa_cons (pv 3) pa_nil))) (pa_cons (pe_tup (pa_cons pe_str (pa_cons (pv 4) pa_nil))) pa_nil))) (pa_cons (pe_tup (pa_cons (pe_tup (pa_cons pe_str (pa_cons (pv 4) pa_nil))) (pa_cons (pe_tup (pa_cons pe_str (pa_cons (pv 2) pa_nil))) pa_nil))) pa_nil)))) pa_nil)))
      (pss_cons (ps_expr (pe_bm PySem.F.plainAttrs_list PySem.F.slot_list_append PySem.F.type_list_append mt_append (pv 5) (pa_cons (pe_tup (pa_cons (pe_tup (pa_cons (pe_tup (pa_cons pe_str (pa_cons (pv 2) pa_nil))) (pa_cons (pe_tup (pa_cons pe_str (pa_cons (pv 3) pa_nil))) pa_nil))) (pa_cons (pe_tup (pa_cons (pe_tup (pa_cons pe_str (pa_cons (pv 3) pa_nil))) (pa_cons (pe_tup (pa_cons pe_str (pa_cons (pv 2) pa_nil))) pa_nil))) pa_nil))) pa_nil)))
      (pss_cons (ps_setLc (own := [("_law_thread", 6)]) (g := gName 6) (tt := tYes) (i := 7) rfl nd rfl rfl (sw_true rfl rfl rfl (by decide +kernel)) (pi_tup (pe_def D0 (hr.mono (by decide)) rfl (pa_cons (pv 0) (pa_cons (pv 5) pa_nil)) pass0)) (blkOk_by (N := ["_law_urn_here", "_law_names_here", "_law_x", "_law_y", "_law_z", "_law_some", "_law_thread", "_law_found", "_law_turn", "_law_at"]) (sc := defScope sNear) (by decide +kernel))
        (fun _ _ _ _ _ => pg_name (i := 6) nd rfl (Or.inl rfl)) (fun _ _ _ _ _ => pts_nil) (fun _ _ _ _ _ => pe_callTy (call_listK K) (by rfl) T.list PyProof.Rows.boot_list (pa_cons (pv 6) pa_nil)))
      (pss_cons (ps_for PassesOwn.never rfl (pi_range1 rfl T.range (pa_cons (pe_def D1 (hr.mono (by decide)) rfl (pa_cons (pv 0) (pa_cons pe_int pa_nil)) pass0) pa_nil)) (pg_name (i := 8) nd rfl (.inl rfl))
        (pss_cons (ps_set (i := 6) nd rfl (Or.inl rfl) (pe_def D0 (hr.mono (by decide)) rfl (pa_cons (pv 0) (pa_cons (pv 7) pa_nil)) pass0))
        (pss_cons (ps_set (i := 9) nd rfl (Or.inl rfl) (pe_def D1 (hr.mono (by decide)) rfl (pa_cons (pv 0) (pa_cons (pe_op op_add (pe_callB call_len_seq (by rfl) T.len PySem.boot_len (pa_cons (pv 6) pa_nil)) pe_int) pa_nil)) pass0))
        (pss_one (ps_if (PW.pt (pw_and (pt_cmpR op_eq (pe_def D1 (hr.mono (by decide)) rfl (pa_cons (pv 0) (pa_cons pe_int pa_nil)) pass0) pe_int (nomark _)) (pw_and1 (pt_cmpR (op_neD hu3) (pv 6) (pe_lst pa_nil) (by rfl)))))
          (pss_one (ps_expr (pe_bm PySem.F.plainAttrs_list PySem.F.slot_list_pop PySem.F.type_list_pop mt_popAt (pv 6) (pa_cons (pe_op op_mod (pv 9) (pe_callB call_len_seq (by rfl) T.len PySem.boot_len (pa_cons (pv 6) pa_nil))) pa_nil))))
          (pss_one (ps_expr (pe_bm PySem.F.plainAttrs_list PySem.F.slot_list_insert PySem.F.type_list_insert mt_insert (pv 6) (pa_cons (pv 9) (pa_cons (pe_def D3 hr rfl (pa_cons (pv 0) (pa_cons (pv 1) pa_nil)) pass0) pa_nil))))))))))
      (pss_one (ps_ret (pe_callTy call_tuple_of (by rfl) T.tuple PyProof.Rows.boot_tuple (pa_cons
        (pe_lc (own := [("_law_thread", 6)]) (g := gName 6) (tt := tYes) rfl nd (pi_list (pv 7)) (blkOk_by (N := ["_law_urn_here", "_law_names_here", "_law_x", "_law_y", "_law_z", "_law_some", "_law_thread", "_law_found", "_law_turn", "_law_at"]) (sc := defScope sNear) (by decide +kernel))
          (fun _ _ _ _ _ => pg_name (i := 6) nd rfl (Or.inl rfl)) (fun _ _ _ _ _ => pts_nil) (fun _ _ _ _ _ => pe_callTy (call_tupleK K) (by rfl) T.tuple PyProof.Rows.boot_tuple (pa_cons (pv 6) pa_nil))) pa_nil))))))))))))), ?_⟩
    obtain ⟨zs, hlz⟩ := u.lst
    -- names
    refine ⟨_, rfl, l, n, 4, rfl, u, by omega, by decide, fun sn ss H1 hsn eb1 u1 hs1 hsl hss => ?_⟩
    have hsnl : sn ≠ l := (ne_of_none hlz hsn).symm
    obtain ⟨x, y, z, q4, hxyz⟩ : ∃ x y z q4, ss = [x, y, z, q4] := by
      match ss, hsl with
      | [a, b, c, d], _ => exact ⟨a, b, c, d, rfl⟩
    have nx : x ∈ names8 := hss x (by rw [hxyz]; simp)
    have ny : y ∈ names8 := hss y (by rw [hxyz]; simp)
    have nz : z ∈ names8 := hss z (by rw [hxyz]; simp)
    -- x, y, z
    have ecut : EvL (tSl (rSlL K) (tVar 1) tNoPart (tPart (tC (.int 3)))) [some (.ref l), some (.ref sn), none, none, none, none, none, none, none, none] H1 [.str x, .str y, .str z] := by
      have := el_sl (K := K) (σ := [some (.ref l), some (.ref sn), none, none, none, none, none, none, none, none]) (H := H1) (te := tVar 1) (tl := tNoPart) (th := tPart (tC (.int 3))) (xs := strsV ss) (lo := none) (hi := some 3) (ev_ref rfl) eo_none (eo_some ev_c) (SqL.of hs1)
      rw [hxyz] at this
      exact this
    refine ecut H1 (Ex.refl _) _ fun p3 H2 hp3 e2' h3 => ⟨p3, _, rfl, SqL.of h3, rfl, _, _, rfl, _, _, rfl, _, _, rfl, rfl, ?_⟩
    show tSeq _ _ _ [some (.ref l), some (.ref sn), some (.str x), some (.str y), some (.str z), none, none, none, none, none] H2
    have u2 := u1.ext e2'
    have hs2 := e2' _ _ hs1
    have E2 : ExB l H H2 := eb1.trans (ExB.of e2')
    have rx : ∀ Hh : Hp, Td Hh (.str x) (.str x) := fun _ => .str x
    have ry : ∀ Hh : Hp, Td Hh (.str y) (.str y) := fun _ => .str y
    have rz : ∀ Hh : Hp, Td Hh (.str z) (.str z) := fun _ => .str z
    -- some
    refine q_asgLd (ds := [progD (near1 x y z)]) (evld_lst (evds1 (eP (p := near1 x y z) (by show _ ≤ 100; simp [near1]) (evds_cons (eT (by simp) (evds_cons (e2 .store rfl (rx _)) (evds_cons (e2 .load rfl (ry _)) evds_nil))) (evds_cons (eT (by simp) (evds_cons (e2 .store rfl (ry _)) (evds_cons (e2 .load rfl (rx _)) evds_nil))) evds_nil)))) (by show 1 ≤ 100000; decide)) fun S H3 g3 => ?_
    refine q_appD (d := progD (near2 x y z)) g3 rfl (eP (p := near2 x y z) (by show _ ≤ 100; simp [near2]) (evds_cons (eT (by simp) (evds_cons (e2 .store rfl (rx _)) (evds_cons (e2 .store rfl (ry _)) evds_nil))) (evds_cons (eT (by simp) (evds_cons (e2 .load rfl (ry _)) (evds_cons (e2 .load rfl (rx _)) evds_nil))) evds_nil))) (by show 1 < 100000; decide) fun H4 g4 tk4 => ?_
    refine q_appD (d := progD (near3 x y z)) g4 rfl (eP (p := near3 x y z) (by show _ ≤ 100; simp [near3]) (evds_cons (eT (by simp) (evds_cons (e2 .store rfl (rx _)) (evds_cons (e2 .load rfl (ry _)) evds_nil))) (evds_cons (eT (by simp) (evds_cons (e2 .store rfl (ry _)) evds_nil)) (evds_cons (eT (by simp) (evds_cons (e2 .load rfl (ry _)) (evds_cons (e2 .load rfl (rx _)) evds_nil))) evds_nil)))) (by show 2 < 100000; decide) fun H5 g5 tk5 => ?_
    refine q_appD (d := progD (near4 x y z)) g5 rfl (eP (p := near4 x y z) (by show _ ≤ 100; simp [near4]) (evds_cons (eT (by simp) (evds_cons (e2 .store rfl (rx _)) (evds_cons (e2 .load rfl (ry _)) evds_nil))) (evds_cons (eT (by simp) (evds_cons (e2 .store rfl (ry _)) (evds_cons (e2 .store rfl (rx _)) evds_nil))) evds_nil))) (by show 3 < 100000; decide) fun H6 g6 tk6 => ?_
    refine q_appD (d := progD (near5 x y z)) g6 rfl (eP (p := near5 x y z) (by show _ ≤ 100; simp [near5]) (evds_cons (eT (by simp) (evds_cons (e2 .store rfl (rx _)) (evds_cons (e2 .load rfl (ry _)) evds_nil))) (evds_cons (eT (by simp) (evds_cons (e2 .store rfl (ry _)) (evds_cons (e2 .load rfl (rz _)) evds_nil))) (evds_cons (eT (by simp) (evds_cons (e2 .store rfl (rz _)) (evds_cons (e2 .load rfl (rx _)) evds_nil))) evds_nil)))) (by show 4 < 100000; decide) fun H7 g7 tk7 => ?_
    refine q_appD (d := progD (near6 x y z)) g7 rfl (eP (p := near6 x y z) (by show _ ≤ 100; simp [near6]) (evds_cons (eT (by simp) (evds_cons (e2 .store rfl (rx _)) (evds_cons (e2 .store rfl (ry _)) evds_nil))) (evds_cons (eT (by simp) (evds_cons (e2 .store rfl (ry _)) (evds_cons (e2 .store rfl (rx _)) evds_nil))) evds_nil))) (by show 5 < 100000; decide) fun H8 g8 tk8 => ?_
    have g8 : Gr H2 S ((nears x y z).map progD) H8 := g8
    have u8 := u2.ext g8.exx
    have hs8 := g8.exx _ _ hs2
    have E8 : ExB l H H8 := E2.trans (ExB.of g8.exx)
    obtain ⟨gS, _, vS, hS8, tS8⟩ := id g8
    have hSl : S ≠ l := by
      obtain ⟨zs, hlz⟩ := u2.lst
      exact (ne_of_none hlz gS).symm
    have vSl := tS8.length
    -- found
    refine ⟨_, rfl, _, rfl, l, S, n + 8, vS, rfl, u8, by omega, hS8, hSl, by rw [vSl]; show 1 ≤ 6; decide, by rw [vSl]; show 6 ≤ 1000; decide, fun pv0 H9 hpv eb9 u9 => ?_⟩
    obtain ⟨i0, hi0, hiv⟩ := List.getElem_of_mem hpv
    obtain ⟨d0, hd0, td0⟩ := tS8.get' (List.getElem?_eq_getElem hi0)
    rw [hiv] at td0
    rw [List.getElem?_map] at hd0
    obtain ⟨p0, hp0, rfl⟩ := Option.map_eq_some_iff.mp hd0
    have hp0m := List.mem_of_getElem? hp0
    obtain ⟨pl1, pl3, pt2⟩ := nears_ok x y z p0 hp0m
    have pnm := nears_names (S := names8) nx ny nz p0 hp0m
    have td9 : Td H9 pv0 (progD p0) := td0.keep (u8.tk eb9)
    obtain ⟨pa0, ts0, rfl, hpa, _, tts⟩ := td9.tup_inv
    have hs9 := eb9 _ _ hs8 hsnl
    have E9 : ExB l H H9 := E8.trans eb9
    refine ⟨pa0, rfl, ⟨ts0, SqT.of hpa⟩, fun D hD => ?_⟩
    have hlD : l ≠ D := by
      obtain ⟨zs, hlz⟩ := u9.lst
      exact ne_of_none hlz hD
    have tsl := tts.length
    rw [List.length_map] at tsl
    refine lc_tup (xs := ts0) (fun i H' => ∃ as : List Addr, Ex H9 H' ∧ H' D = some (.lst (as.map V.ref)) ∧ as.length = i ∧ as.Nodup ∧ (∀ a ∈ as, H9 a = none ∧ a ≠ D) ∧ ∀ (k : Nat) (a : Addr) (t : T'), as[k]? = some a → p0[k]? = some t → ThAt H' a t)
      ⟨[], Ex.new hD, upd_same, rfl, List.nodup_nil, fun _ h => (by cases h), fun k a t h => (by simp at h)⟩ (fun i H' _ ⟨as, e, _⟩ => SqT.of (e _ _ hpa)) (fun i xv H' hi ⟨as, ex, hD', hal, hnd, hfr, hth⟩ => ?_) fun H' ⟨as, ex, hD', hal, hnd, hfr, hth⟩ => ?_
    · refine ⟨rfl, ?_⟩
      show tYes _ H' _
      obtain ⟨d, hd, tdx⟩ := tts.get' hi
      rw [List.getElem?_map] at hd
      obtain ⟨t, ht, rfl⟩ := Option.map_eq_some_iff.mp hd
      obtain ⟨xa, xs, rfl, hxa, _, txs⟩ := (tdx.ex ex).tup_inv
      refine ⟨_, rfl, xa, xs, rfl, .inr (SqT.of hxa), fun b hb => ?_⟩
      have hbD : b ≠ D := (ne_of_none hD' hb).symm
      have ex2 : Ex H' (upd H' b (.lst xs)) := Ex.new hb
      have hD2 := ex2 _ _ hD'
      have tk3 : TK (upd H' b (.lst xs)) (upd (upd H' b (.lst xs)) D (.lst (as.map V.ref ++ [V.ref b]))) := TK.lst hD2
      refine ⟨as.map V.ref, hD2, Nat.lt_of_le_of_lt (by rw [List.length_map]; have := (List.getElem?_eq_some_iff.mp hi).1; omega : (as.map V.ref).length ≤ 100) (by decide), as ++ [b], Ex.mut (ex.trans ex2) hD, by rw [upd_same, List.map_append]; rfl, by rw [List.length_append, List.length_singleton, hal], ?_, fun a ha => ?_, fun k a t' hk ht' => ?_⟩
      · rw [List.nodup_append]
        refine ⟨hnd, by simp, fun a ha b' hb' e => ?_⟩
        cases List.mem_singleton.mp hb'
        subst e
        obtain ⟨k, hk, hka⟩ := List.getElem_of_mem ha
        have hkp : k < p0.length := by have := (List.getElem?_eq_some_iff.mp hi).1; omega
        obtain ⟨ws, hw, _⟩ := hth k a p0[k] (by rw [List.getElem?_eq_getElem hk, hka]) (List.getElem?_eq_getElem hkp)
        rw [hb] at hw; cases hw
      · rcases List.mem_append.mp ha with ha | ha
        · exact hfr a ha
        · cases List.mem_singleton.mp ha
          exact ⟨fresh_back ex hb, hbD⟩
      · by_cases hlt : k < as.length
        · rw [List.getElem?_append_left hlt] at hk
          obtain ⟨ws, h1, h2⟩ := hth k a t' hk ht'
          have haD := (hfr a (List.mem_of_getElem? hk)).2
          exact ⟨ws, by rw [upd_ne haD]; exact ex2 _ _ h1, (h2.ex ex2).keep tk3⟩
        · rw [List.getElem?_append_right (by omega)] at hk
          have hk0 : k - as.length = 0 := by
            have := (List.getElem?_eq_some_iff.mp hk).1
            simp at this; omega
          rw [hk0] at hk
          cases hk
          have : k = i := by omega
          subst this
          rw [ht] at ht'; cases ht'
          exact ⟨xs, by rw [upd_ne hbD]; exact upd_same, (txs.ex ex2).keep tk3⟩
    · rw [tsl] at hal
      have f9 : FAt H' D as p0 := ⟨hD', hal, hth⟩
      have u10 := u9.ext ex
      have hs10 := ex _ _ hs9
      have E10 : ExB l H H' := E9.trans (ExB.of ex)
      have hDH : H D = none := by
        cases e : H D with
        | none => rfl
        | some o => rw [E9 _ _ e hlD.symm] at hD; cases hD
      have hla : ∀ a ∈ as, a ≠ l := fun a ha z => by
        obtain ⟨zs, hlz⟩ := u9.lst
        have := (hfr a ha).1
        rw [z, hlz] at this; cases this
      have haH : ∀ a ∈ as, H a = none := fun a ha => by
        cases e : H a with
        | none => rfl
        | some o => have := E9 _ _ e (hla a ha); rw [(hfr a ha).1] at this; cases this
      have hsa : ∀ a ∈ as, a ≠ sn := fun a ha z => by
        have := (hfr a ha).1
        rw [z, hs9] at this; cases this
      have hDs : D ≠ sn := (ne_of_none hs9 hD).symm
      have hDa : D ∉ as := fun h => (hfr D h).2 rfl
      show tSeq _ _ _ [some (.ref l), some (.ref sn), some (.str x), some (.str y), some (.str z), some (.ref S), none, some (.ref D), none, none] H'
      -- for turn in range(take(urn, 5))
      refine ⟨_, rfl, l, n + 9, 5, rfl, u10, by omega, by decide, by decide, fun r1 H11 hr1 eb11 u11 => ⟨(r1 : Int), rfl, by omega, by omega, ?_⟩⟩
      have f11 : FAt H11 D as p0 := f9.exb u10 eb11 hlD.symm hla
      have hs11 := eb11 _ _ hs10 hsnl
      have E11 := E10.trans eb11
      refine for_range (lo := 0) (n := r1) (fun i σ' H' => ∃ (p : P') (x6 x8 x9 : Option V), σ' = [some (.ref l), some (.ref sn), some (.str x), some (.str y), some (.str z), some (.ref S), x6, some (.ref D), x8, x9] ∧ ExB l H H' ∧ H' sn = some (.lst (strsV ss)) ∧ FAt H' D as p ∧ p.length = p0.length ∧ (∀ t ∈ p, t.length ≤ 2 + i) ∧ Names p names8 ∧ UrnAt H' l (n + 10 + 5 * i))
        ⟨p0, none, none, none, rfl, E11, hs11, f11, rfl, pt2, pnm, u11⟩ (fun i σ' H' hi ⟨p, x6, x8, x9, es, eb, hs', ff, hpl, hpt, hpn, uu⟩ => ?_) (fun σ' H' ⟨p, x6, x8, x9, es, eb, hs', ff, hpl, hpt, hpn, uu⟩ => ?_)
      · subst es
        have hi5 : i < 5 := by omega
        have hasl : as.length ≤ 3 ∧ 1 ≤ as.length := by have := ff.len; omega
        refine ⟨_, rfl, _, rfl, l, D, n + 10 + 5 * i, as.map V.ref, rfl, uu, by omega, ff.at', hlD.symm, by rw [List.length_map]; omega, by rw [List.length_map]; omega, fun v12 H12 hv12 eb12 u12 => ?_⟩
        obtain ⟨a, ha, rfl⟩ := List.mem_map.mp hv12
        obtain ⟨k0, hk0, hka⟩ := List.getElem_of_mem ha
        have hka' : as[k0]? = some a := by rw [List.getElem?_eq_getElem hk0, hka]
        have hkp : k0 < p.length := by rw [← ff.len]; exact hk0
        have hpk : p[k0]? = some p[k0] := List.getElem?_eq_getElem hkp
        generalize p[k0] = t at hpk
        have htm : t ∈ p := List.mem_of_getElem? hpk
        have htl := hpt t htm
        have f12 : FAt H12 D as p := ff.exb uu eb12 hlD.symm hla
        obtain ⟨vs, hva, tvs⟩ := f12.th k0 a t hka' hpk
        have hvl := tvs.length
        rw [List.length_map] at hvl
        -- at
        refine ⟨_, rfl, _, rfl, a, vs, rfl, .inl (SqL.of hva), _, _, rfl, rfl, l, n + 10 + 5 * i + 1, vs.length + 1, rfl, u12, by omega, by omega, by omega, fun r2 H13 hr2 eb13 u13 => ?_⟩
        have hal' : a ≠ l := hla a ha
        have f13 : FAt H13 D as p := f12.exb u12 eb13 hlD.symm hla
        have E13 : ExB l H H13 := (eb.trans eb12).trans eb13
        have hs13 := eb13 _ _ (eb12 _ _ hs' hsnl) hsnl
        have hva13 := eb13 _ _ hva hal'
        have tvs13 := tvs.keep (u12.tk eb13)
        -- the test
        have test : ∀ Q' : Bool → Hp → Prop, (∀ b H15, ExB l H13 H15 → UrnAt H15 l (n + 10 + 5 * i + 3) → (b = true → t ≠ []) → Q' b H15) →
            tAnd (tTest (tOp rEq (tCall spTake [] E0 (tCons (tVar 0) (tCons (tC (.int 4)) tNil))) (tC (.int 0)))) (tTest (tOp (rNeD K) (tVar 6) (tLst tNil))) [some (.ref l), some (.ref sn), some (.str x), some (.str y), some (.str z), some (.ref S), some (.ref a), some (.ref D), some (.int ((0 : Int) + (i : Nat))), some (.int (r2 : Int))] H13 Q' := fun Q' hQ => by
          refine ⟨_, rfl, l, n + 10 + 5 * i + 2, 4, rfl, u13, by omega, by decide, by decide, fun r3 H14 hr3 eb14 u14 => ⟨rfl, _, rfl, ?_⟩⟩
          show if decide ((V.int (r3 : Int)) = .int 0) = true then tTest (tOp (rNeD K) (tVar 6) (tLst tNil)) [some (.ref l), some (.ref sn), some (.str x), some (.str y), some (.str z), some (.ref S), some (.ref a), some (.ref D), some (.int ((0 : Int) + (i : Nat))), some (.int (r2 : Int))] H14 Q' else Q' false H14
          by_cases hz : decide ((V.int (r3 : Int)) = .int 0) = true
          · rw [if_pos hz]
            have hva14 := eb14 _ _ hva13 hal'
            have tvs14 := tvs13.keep (u13.tk eb14)
            refine ⟨_, rfl, by show 0 ≤ sizeLine; decide, fun q hq => ?_⟩
            have eq : Ex H14 (upd H14 q (.lst [])) := Ex.new hq
            refine ⟨.list (t.map insD), .list [], .lst (SqL.of (eq _ _ hva14)) (tvs14.ex eq).dp, .lst (SqL.of upd_same) .nil, shaped_of (lay_list (D := insD) fun ii hii => lay_ins fun w hw => strOk8 w (hpn t htm ii hii w hw)) (by decide), by decide +kernel, _, rfl, ?_⟩
            refine hQ _ _ (eb14.trans (ExB.of eq)) (u14.ext eq) fun hb ht => ?_
            rw [ht] at hb
            revert hb
            decide +kernel
          · rw [if_neg hz]
            exact hQ false H14 eb14 u14 fun h => (by cases h)
        refine test _ fun b H15 eb15 u15 hbt => ?_
        have f15 : FAt H15 D as p := f13.exb u13 eb15 hlD.symm hla
        have E15 := E13.trans eb15
        have hs15 := eb15 _ _ hs13 hsnl
        have hva15 := eb15 _ _ hva13 hal'
        have tvs15 := tvs13.keep (u13.tk eb15)
        -- all but the one list stands
        have fin : ∀ (H16 : Hp) (vs' : List V) (t' : T') (n' : Nat), ExB l H H16 → H16 sn = some (.lst (strsV ss)) → FAt H16 D as p → UrnAt H16 l n' → n' ≤ n + 10 + 5 * (i + 1) → TdAll H16 vs' (t'.map insD) → t'.length ≤ 2 + (i + 1) → (∀ ii ∈ t', ∀ w, ii.var? = some w → w ∈ names8) →
            ∃ (p : P') (x6 x8 x9 : Option V), [some (.ref l), some (.ref sn), some (.str x), some (.str y), some (.str z), some (.ref S), some (.ref a), some (.ref D), some (.int ((0 : Int) + (i : Nat))), some (.int (r2 : Int))] = [some (.ref l), some (.ref sn), some (.str x), some (.str y), some (.str z), some (.ref S), x6, some (.ref D), x8, x9] ∧ ExB l H (upd H16 a (.lst vs')) ∧ upd H16 a (.lst vs') sn = some (.lst (strsV ss)) ∧ FAt (upd H16 a (.lst vs')) D as p ∧ p.length = p0.length ∧ (∀ t ∈ p, t.length ≤ 2 + (i + 1)) ∧ Names p names8 ∧ UrnAt (upd H16 a (.lst vs')) l (n + 10 + 5 * (i + 1)) := fun H16 vs' t' n' hE hS hf hu hn' hv ht' hw => by
          refine ⟨p.set k0 t', _, _, _, rfl, fun c o hc hne => ?_, ?_, hf.put hnd hDa hka' hpk hv, by rw [List.length_set]; exact hpl, fun u hu' => ?_, fun u hu' => ?_, ?_⟩
          · rw [upd_ne (ne_of_none hc (haH a ha))]
            exact hE c o hc hne
          · rw [upd_ne (hsa a ha).symm]; exact hS
          · rcases List.mem_or_eq_of_mem_set hu' with h | rfl
            · have := hpt u h; omega
            · exact ht'
          · rcases List.mem_or_eq_of_mem_set hu' with h | rfl
            · exact hpn u h
            · exact hw
          · obtain ⟨a1, b1, c1, z1, z2, z3, z4, z5, z6⟩ := hu.ex
            exact ⟨a1, b1, c1, by rw [upd_ne hal'.symm]; exact z1, z2, z3, z4, by omega, by omega⟩
        cases b with
        | true =>
          have hne := hbt rfl
          have hpos : 0 < vs.length := by rw [hvl]; exact List.length_pos_iff.mpr hne
          have hmod : (r2 : Int) % (vs.length : Int) = ((r2 % vs.length : Nat) : Int) := rfl
          have hlt : r2 % vs.length < vs.length := Nat.mod_lt _ hpos
          refine iteT ?_
          refine ⟨_, rfl, Or.inl ⟨rfl, _, sq_of hva15⟩, _, rfl, _, rfl, a, vs, rfl, .inl (SqL.of hva15), _, _, rfl, rfl, (by omega : (0 : Int) < (vs.length : Int)), a, vs, _, r2 % vs.length, vs[r2 % vs.length], rfl, rfl, hva15, by omega, by omega, (by rw [hmod]; exact seqIx hlt), List.getElem?_eq_getElem hlt, ?_⟩
          refine fin H15 _ (t.eraseIdx (r2 % vs.length)) (n + 10 + 5 * i + 3) E15 hs15 f15 u15 (by omega) ?_ ?_ fun ii hii => hpn t htm ii (List.mem_of_mem_eraseIdx hii)
          · have er : ∀ {ds : List PyData} {vs : List V} (j : Nat), TdAll H15 vs ds → TdAll H15 (vs.eraseIdx j) (ds.eraseIdx j) := fun {ds vs} j h => by
              induction j generalizing ds vs with
              | zero =>
                cases h with
                | nil => exact .nil
                | cons h1 h2 => exact h2
              | succ j ih =>
                cases h with
                | nil => exact .nil
                | cons h1 h2 => exact .cons h1 (ih h2)
            rw [← eraseIdx_map']
            exact er _ tvs15
          · have := List.length_eraseIdx_le t (r2 % vs.length); omega
        | false =>
          refine iteF ?_
          refine ⟨_, rfl, Or.inl ⟨rfl, _, sq_of hva15⟩, _, rfl, _, rfl, _, rfl, l, sn, n + 10 + 5 * i + 3, ss, rfl, u15, by omega, hs15, hsnl, by omega, by omega, fun vi ii H16 eb16 u16 tdi hxi => ?_⟩
          have hva16 := eb16 _ _ hva15 hal'
          have tvs16 := tvs15.keep (u15.tk eb16)
          refine ⟨a, vs, (r2 : Int), vi, rfl, rfl, hva16, Nat.lt_of_le_of_lt (by omega : vs.length ≤ 100) (by decide), by omega, by omega, ?_⟩
          refine fin H16 _ (t.take r2 ++ [ii] ++ t.drop r2) (n + 10 + 5 * i + 3 + 2) (E15.trans eb16) (eb16 _ _ hs15 hsnl) (f15.exb u15 eb16 hlD.symm hla) u16 (by omega) ?_ ?_ fun jj hjj => ?_
          · rw [List.map_append, List.map_append, List.map_take, List.map_drop]
            exact ((tvs16.take _).append (.one tdi)).append (tvs16.drop _)
          · rw [List.length_append, List.length_append, List.length_take, List.length_drop, List.length_singleton]; omega
          · rcases List.mem_append.mp hjj with h | h
            · rcases List.mem_append.mp h with h | h
              · exact hpn t htm jj (List.mem_of_mem_take h)
              · cases List.mem_singleton.mp h
                exact fun w hw => hss w (hxi w hw)
            · exact hpn t htm jj (List.mem_of_mem_drop h)
      · subst es
        have hpl3 : p.length ≤ 3 := by omega
        have hal2 := ff.len
        -- the last comprehension
        refine ⟨_, rfl, D, rfl, ⟨as.map V.ref, SqL.of ff.at'⟩, fun G hG => ?_⟩
        refine lc_list (xs := as.map V.ref) (fun i H2 => ∃ acc : List V, Ex H' H2 ∧ H2 G = some (.lst acc) ∧ TdAll H2 acc ((p.take i).map thD)) ⟨[], Ex.new hG, upd_same, .nil⟩ (fun i H2 _ ⟨acc, e, _⟩ => SqL.of (e _ _ ff.at')) (fun i xv H2 hi2 ⟨acc, e, hG2, tacc⟩ => ?_) fun H2 ⟨acc, e, hG2, tacc⟩ => ?_
        · refine ⟨rfl, ?_⟩
          show tYes _ H2 _
          rw [List.getElem?_map] at hi2
          obtain ⟨a, ha, rfl⟩ := Option.map_eq_some_iff.mp hi2
          have hia : i < as.length := (List.getElem?_eq_some_iff.mp ha).1
          have hip : i < p.length := by omega
          obtain ⟨vs, hva, tvs⟩ := ff.th i a p[i] ha (List.getElem?_eq_getElem hip)
          have hti := hpt p[i] (List.getElem_mem hip)
          have hvl := tvs.length
          rw [List.length_map] at hvl
          refine ⟨_, rfl, a, vs, rfl, .inl ⟨SqL.of (e _ _ hva), fun tt htt => ?_⟩⟩
          have ett : Ex H2 (upd H2 tt (.tup vs)) := Ex.new htt
          have hG3 := ett _ _ hG2
          have tk4 : TK (upd H2 tt (.tup vs)) (upd (upd H2 tt (.tup vs)) G (.lst (acc ++ [V.ref tt]))) := TK.lst hG3
          have hacl := tacc.length
          rw [List.length_map, List.length_take] at hacl
          refine ⟨acc, hG3, Nat.lt_of_le_of_lt (by omega : acc.length ≤ 100) (by decide), acc ++ [V.ref tt], Ex.mut (e.trans ett) hG, upd_same, ?_⟩
          rw [List.take_add_one, List.getElem?_eq_getElem hip, Option.toList_some, List.map_append]
          exact ((tacc.ex ett).keep tk4).append (.one (Td.keep tk4 (.tup upd_same (by omega) ((tvs.ex e).ex ett))))
        · rw [List.length_map, hal2, List.take_length] at tacc
          have hacl := tacc.length
          rw [List.length_map] at hacl
          refine ⟨G, acc, rfl, .inl ⟨SqL.of hG2, fun tt htt => ?_⟩⟩
          have ett : Ex H2 (upd H2 tt (.tup acc)) := Ex.new htt
          exact k (.ref tt) p _ ((eb.trans (ExB.of e)).trans (ExB.of ett)) (((uu.ext e).ext ett).mono (by omega) (by omega)) (.tup upd_same (by omega) (tacc.ex ett)) (by omega) hpl3 (fun t ht => by have := hpt t ht; omega) hpn
end
end RFW
end

section
set_option Elab.async false
set_option linter.all false
set_option maxRecDepth 100000
set_option maxHeartbeats 4000000
/-! the law's foreign, least. -/
namespace RFW
open PySem L2 Evl RF
abbrev sForeign : Stmt := top 38
abbrev sLeast : Stmt := top 37
def fjS (x : Str) : Str := cutS x none (some 3) ++ "j"
def fIns : I' → I'
  | .acc k x => .acc k (fjS x)
  | .fence => .fence
def foreign (p : P') : P' := p.map fun t => t.map fIns
theorem fj_not : ∀ x ∈ names8, ∀ y ∈ names8, ¬ y = fjS x := by decide +kernel
theorem fj_ok : ∀ x ∈ names8, PyData.strOk (fjS x) = true := by decide +kernel
theorem len8 : ∀ x ∈ names8, x.length ≤ 4 ∧ (cutS x none (some 3)).length ≤ 4 := by decide +kernel
theorem apart_foreign {p q : P'} (hp : Names p names8) (hq : Names q names8) : Apart p (foreign q) := by
  intro t ht u hu a ha b hb
  obtain ⟨u0, hu0, rfl⟩ := List.mem_map.mp hu
  obtain ⟨b0, hb0, rfl⟩ := List.mem_map.mp hb
  cases a with
  | fence => exact meets_fence _
  | acc k x =>
    cases b0 with
    | fence => exact meets_fence' _
    | acc k' y =>
      have hx := hp t ht _ ha x rfl
      have hy := hq u0 hu0 _ hb0 y rfl
      show (Ins.acc k x : I').meets (.acc k' (fjS y)) = false
      unfold Ins.meets
      have : decide ((Ins.acc k x : I').var? = (Ins.acc k' (fjS y) : I').var?) = false := decide_eq_false fun z => fj_not y hy x hx (Option.some.inj z)
      rw [this]
      simp
theorem call_lenK {X : Cx} (K : PySem.W.Frag) (hK : X.K = K := by rfl) : CallR X (.builtin "len") (rLenS K) := by subst hK; exact call_len_seq
theorem insL_len (i : I') : decide (((insL i).length : Int) = 2) = i.isAcc := by cases i <;> rfl
section
variable {P : Program} {w : World} {K : PySem.W.Frag} {mg : Str → Option Value} {base : Heap}
def fForeign : List PyData → PyData → Prop := fun ds d => ∃ p : P', ds = [progD p] ∧ Names p names8 ∧ p.length ≤ 100 ∧ (∀ t ∈ p, t.length ≤ 100) ∧ d = progD (foreign p)
theorem scForeign : FnScope ["_law_plan_here", "_law_found", "_law_row", "_law_one"] ["_law_plan_here"] (defScope sForeign) := ⟨rfl, rfl, rfl, by decide +kernel, rfl, by decide +kernel, by decide +kernel⟩
theorem ok_foreign (T : Txt mg) (h : Here K mg "_law_foreign" sForeign ["_law_plan_here"]) : DefOk P w K mg base "_law_foreign" ["_law_plan_here"] 1 (SpD fForeign) := h.ok fun F => by
  refine F.ok scForeign (fun vs H Q E h => ?_) (fun cdv A outer s H vs Q E hr h => ?_)
  · obtain ⟨_, ⟨ds, d, r, ⟨p, rfl, _⟩, _⟩, _⟩ := h
    exact r.length
  · obtain ⟨_, ⟨ds, d, r, ⟨p, rfl, hn, hp, ht, rfl⟩, rfl⟩, k⟩ := h
    obtain ⟨v1, rfl, r1⟩ := r.inv1
    have nd := scForeign.nd
    refine ⟨_, pss_cons (ps_set (i := 1) nd rfl (Or.inl rfl) (pe_lst pa_nil))
      (pss_cons (ps_for PassesOwn.never rfl (pi_tup (pv 0)) (pg_name (i := 2) nd rfl (.inl rfl))
        (pss_one (ps_expr (pe_bm PySem.F.plainAttrs_list PySem.F.slot_list_append PySem.F.type_list_append mt_append (pv 1) (pa_cons (pe_callTy call_tuple_of (by rfl) T.tuple PyProof.Rows.boot_tuple (pa_cons
          (pe_lc (own := [("_law_one", 3)]) (g := gName 3) (tt := tYes) rfl nd (pi_tup (pv 2)) (blkOk_by (N := ["_law_plan_here", "_law_found", "_law_row", "_law_one"]) (sc := defScope sForeign) (by decide +kernel))
            (fun _ _ _ _ _ => pg_name (i := 3) nd rfl (Or.inl rfl)) (fun _ _ _ _ _ => pts_nil)
            (fun _ _ _ _ _ => pe_ifExp (pt_cmpR op_eq (pe_callB (call_lenK K) (by rfl) T.len PySem.boot_len (pa_cons (pv 3) pa_nil)) pe_int (nomark _))
              (pe_tup (pa_cons (pe_ix (ixT K) (pv 3) pe_int (fun _ _ => rfl)) (pa_cons (pe_op op_add_str (pe_slice sl_str (pe_ix (ixT K) (pv 3) pe_int (fun _ _ => rfl)) po_none (po_some pe_int)) pe_str) pa_nil))) (pv 3))) pa_nil)) pa_nil)))))
      (pss_one (ps_ret (pe_callTy call_tuple_of (by rfl) T.tuple PyProof.Rows.boot_tuple (pa_cons (pv 1) pa_nil))))), ?_⟩
    refine q_asgLd (evld_lst evds_nil (by decide)) fun L H1 g1 => ?_
    refine q_forTD (ds := p.map thD) (evd_var rfl (r1.ex g1.exx)) (fun Hx i σ' H' => TK Hx H' ∧ Gr H L ((p.take i).map fun t => thD (t.map fIns)) H' ∧ ∃ x2, σ' = [some v1, some (.ref L), x2, none]) (fun Hx ex => ⟨TK.refl _, g1.ext ex, _, rfl⟩) (fun Hx i σ' H' ⟨a, _⟩ => a) (fun Hx i x d σ' H' ex hi hx ⟨tk, g, x2, es⟩ => ?_) (fun Hx σ' H' ex ⟨tk, g, x2, es⟩ => ?_)
    · subst es
      rw [List.getElem?_map] at hi
      obtain ⟨t, hti, rfl⟩ := Option.map_eq_some_iff.mp hi
      have htm := List.mem_of_getElem? hti
      have htl := ht t htm
      have hpl : i < p.length := (List.getElem?_eq_some_iff.mp hti).1
      refine s_appD g rfl (d := thD (t.map fIns)) ((evd_tupL (evld_mT (D := insD) (f := fun _ => true) (c := fun i => insD (fIns i)) (evd_var rfl hx) (by omega) (fun x => rfl) (fun v ii H2 e2 hii hv => evt_yes) (fun v ii H2 e2 hii hv _ => ?_)).ld).is ?_) (by rw [List.length_map, List.length_take]; omega) fun H2 g2 tk2 => ⟨tk.trans tk2, g2.is ?_, _, rfl⟩
      · refine evr_if (b := ii.isAcc) (et_is (evt_B (evd_eqI (evd_len (evd_var rfl hv)) evd_int)) (insL_len ii)) (fun hb => ?_) (fun hb => ?_)
        · cases ii with
          | fence => cases hb
          | acc kd y =>
            have hy := hn t htm _ hii y rfl
            obtain ⟨l1, l2⟩ := len8 y hy
            have ecut : EvD (tSl rSlS (tOp (rIxT K) (tVar 3) (tC (.int 1))) tNoPart (tPart (tC (.int 3)))) (List.set (wipe [some v1, some (.ref L), some x, none] [3]) 3 (some v)) H2 (.str (cutS y none (some 3))) := fun H3 e3 Q q =>
              (evd_ix (K := K) (evd_var rfl hv) evd_int (insL_1 (i := .acc kd y) rfl)) H3 e3 _ fun z H4 e4 rz => by
                refine ⟨3, rfl, y, rz.str_inv, Nat.le_trans l1 (by decide), q _ H4 e4 (.str _)⟩
            refine evd_tup (ds := [.str (kdS kd), .str (fjS y)]) (evds_cons (evd_ix (evd_var rfl hv) evd_int (insL_0 (.acc kd y))) (evds1 (evd_op ecut evd_str fun a b H3 _ ra rb Q q => ⟨_, _, ra.str_inv, rb.str_inv, Nat.le_trans (Nat.add_le_add l2 (Nat.le_refl _)) (by decide), q _ H3 (Ex.refl _) (.str _)⟩))) (by show 2 ≤ 100000; decide)
        · cases ii with
          | fence => exact evd_var rfl hv
          | acc kd y => cases hb
      · show PyData.tuple _ = PyData.tuple _
        rw [filter_yes, List.map_map]; rfl
      · rw [List.take_add_one, hti, Option.toList_some, List.map_append]; rfl
    · subst es
      rw [List.length_map, List.take_length] at g
      refine s_retR (evd_tupL (evr_var rfl fun H9 e9 => (g.ld (by rw [List.length_map]; omega)).ex e9)) fun v H9 e9 rv => k v H9 (g.exx.trans e9) ?_
      show Td H9 v (.tuple ((p.map fun t => t.map fIns).map thD))
      rw [List.map_map]
      exact rv
/-- a list of two, ints or None -/
def pLeast (vs : List V) (H : Hp) (R : Rel) : Prop := ∃ (v : V) (r1 r2 : Option Nat), vs = [v] ∧ Ld [optD r1, optD r2] v H ∧ R = Dt (optD (leastO r1 r2))
theorem scLeast : FnScope ["_law_some", "_law_left", "_law_one"] ["_law_some"] (defScope sLeast) := ⟨rfl, rfl, rfl, by decide +kernel, rfl, by decide +kernel, by decide +kernel⟩
def someN : List (Option Nat) → List Nat
  | [] => []
  | none :: r => someN r
  | some n :: r => n :: someN r
theorem some_filter : ∀ rs : List (Option Nat), (rs.filter fun r => !r.isNone).map optD = natsD (someN rs)
  | [] => rfl
  | none :: r => some_filter r
  | some n :: r => by
    show optD (some n) :: (r.filter fun r => !r.isNone).map optD = _
    rw [some_filter r]; rfl
theorem ok_least (T : Txt mg) (h : Here K mg "_law_least" sLeast ["_law_some"]) : DefOk P w K mg base "_law_least" ["_law_some"] 1 (SpG pLeast) := h.ok fun F => by
  refine F.ok scLeast (fun vs H Q E h => ?_) (fun cdv A outer s H vs Q E hr h => ?_)
  · obtain ⟨_, ⟨v, r1, r2, rfl, _⟩, _⟩ := h
    rfl
  · obtain ⟨_, ⟨v, r1, r2, rfl, hld, rfl⟩, k⟩ := h
    have nd := scLeast.nd
    have hu2 := hu65 hr
    have hu3 := Nat.lt_of_le_of_lt (Nat.add_le_add_left (by decide : 64 ≤ 65) _) hu2
    refine ⟨_, pss_cons (ps_setLc (own := [("_law_one", 2)]) (g := gName 2) (i := 1) rfl nd rfl rfl (sw_true rfl rfl rfl (by decide +kernel)) (pi_list (pv 0)) (blkOk_by (N := ["_law_some", "_law_left", "_law_one"]) (sc := defScope sLeast) (by decide +kernel))
        (fun _ _ _ _ _ => pg_name (i := 2) nd rfl (Or.inl rfl)) (fun _ _ _ _ _ => pts_one (pt_cmpR op_notN (pv 2) pe_non (by rfl))) (fun _ _ _ _ _ => pv 2))
      (pss_one (ps_ret (pe_ifExp (pt_cmpR (op_neD hu3) (pv 1) (pe_lst pa_nil) (by rfl)) (pe_callB (cr_min rfl) (by rfl) T.min PyProof.Rows.boot_min (pa_cons (pv 1) pa_nil)) pe_non))), ?_⟩
    refine q_asgR (evld_mL (D := optD) (xs := [r1, r2]) (c := optD) (f := fun r => !r.isNone) (evr_var rfl fun H1 e1 => hld.ex e1) (by show 2 ≤ 40000; decide) (fun x => rfl) (fun x r H1 e1 hr' hx => et_is (evt_B (evd_notN (evd_var rfl hx))) (by rw [isNone_opt])) (fun x r H1 e1 hr' hx _ => evd_var rfl hx)).ld fun vl H1 e1 hl => ?_
    rw [some_filter] at hl
    obtain ⟨p, vs, ev, hp, hz, hvs⟩ := hl
    subst ev
    have hl2 := hvs.length
    rw [List.length_map] at hl2
    have hb : EvT (tTest (tOp (rNeD K) (tVar 1) (tLst tNil))) [some v, some (.ref p), none] H1 (decide (someN [r1, r2] ≠ [])) := by
      refine et_B (fun H2 e2 Q q => ⟨_, rfl, by show 0 ≤ sizeLine; decide, fun a ha => ?_⟩)
      have ea : Ex H2 (upd H2 a (.lst [])) := Ex.new ha
      refine ⟨.list (natsD (someN [r1, r2])), .list [], .lst (SqL.of (ea _ _ (e2 _ _ hp))) ((hvs.ex e2).ex ea).dp, .lst (SqL.of upd_same) .nil, shaped_of (n := 1) (lay_list (D := fun n : Nat => PyData.int (n : Int)) (n := 0) fun n _ => ⟨rfl, Nat.le_refl _⟩) (by decide), by decide +kernel, ?_⟩
      have e : (!PyData.eqv (.list (natsD (someN [r1, r2]))) (.list [])) = decide (someN [r1, r2] ≠ []) := by
        cases someN [r1, r2] <;> rfl
      rw [e]
      exact q _ ea
    refine s_retR (R := Dt (optD (leastO r1 r2))) (evr_if hb (fun hne => ?_) (fun hne => ?_)) fun v' H2 e2 r => k v' H2 (e1.trans e2) r
    · have hne := of_decide_eq_true hne
      intro H2 e2 Q q
      refine ⟨_, rfl, p, (someN [r1, r2]).map fun n : Nat => (n : Int), rfl, ?_, ?_, fun m hm hl => ?_⟩
      · have ew : natsD (someN [r1, r2]) = ((someN [r1, r2]).map fun n : Nat => (n : Int)).map .int := by rw [List.map_map]; rfl
        rw [ew] at hvs
        rw [← hvs.ints_inv]
        exact SqL.of (e2 _ _ hp)
      · rw [List.length_map]; exact List.length_pos_iff.mpr hne
      · obtain ⟨a, ha, rfl⟩ := List.mem_map.mp hm
        have hmin := minO_is ha fun x hx => Int.ofNat_le.mp (hl _ (List.mem_map.mpr ⟨x, hx, rfl⟩))
        have heq : leastO r1 r2 = some a := by
          rw [← hmin]
          cases r1 <;> cases r2 <;> rfl
        rw [heq] at q
        exact q _ H2 (Ex.refl _) (.int _)
    · have hne := of_decide_eq_false hne
      have h0 : someN [r1, r2] = [] := by
        cases h : someN [r1, r2] with
        | nil => rfl
        | cons _ _ => exact absurd (by rw [h]; exact fun z => (by cases z)) hne
      cases r1 with
      | some _ => cases h0
      | none =>
        cases r2 with
        | some _ => cases h0
        | none => exact evd_non
end
end RFW
end

section
set_option Elab.async false
set_option linter.all false
set_option maxRecDepth 100000
set_option maxHeartbeats 4000000
/-! the law's beside_right. -/
namespace RFW
open PySem L2 Evl RF
abbrev sBeside : Stmt := top 39
theorem optD_shaped (r : Option Nat) : SeqAt.shaped (optD r) = true := by
  cases r with
  | none => decide +kernel
  | some n => exact shaped_of (n := 0) ⟨rfl, Nat.le_refl _⟩ (by decide)
theorem triD_lay (q : Tri) : PyData.canLay0 (triD q) = true ∧ (triD q).depth ≤ 1 := ⟨rfl, Nat.le_refl _⟩
theorem tris_shaped (qs : List Tri) : SeqAt.shaped (.tuple (qs.map triD)) = true := shaped_of (lay_tup fun q _ => triD_lay q) (by decide)
theorem eqv_shaped {d : PyData} (h : SeqAt.shaped d = true) : PyData.eqv d d = true := SeqAt.eqv_refl d (SeqAt.canLay_of_shaped h)
section
variable {K : PySem.W.Frag} {σ : L2.St} {H : Hp} {te : TE} {ds : List PyData} {R : Rel}
theorem evr_callL {Pre : List V → Hp → Rel → Prop} {E : XK} (h : EvLd te σ H ds) (hp : ∀ v H1, Ex H H1 → Ld ds v H1 → Pre [v] H1 R) : EvR (tCall (SpG Pre) [] E (tCons te tNil)) σ H R := fun H1 e Q q =>
  h H1 e _ fun p vs H2 hp' e2 hl hz r => ⟨R, hp _ H2 (e.trans e2) ⟨p, vs, rfl, hl, hz, r⟩, fun v H3 e3 k => q v H3 (e2.trans e3) k⟩
end
section
variable {P : Program} {w : World} {K : PySem.W.Frag} {mg : Str → Option Value} {base : Heap}
def fBeside : List PyData → PyData → Prop := fun ds d => ∃ (p q : P') (line : Bool) (room : Nat), ds = [progD p, progD q, boxD line room] ∧ ProgSm p ∧ ProgSm q ∧ ProgSm (p ++ q) ∧ Apart p q ∧ 1 ≤ room ∧ d = .bool true
theorem scBeside : FnScope ["_law_plan_here", "_law_other", "_law_box_here", "_law_both", "_law_many", "_law_due", "_law_thread", "_law_early", "_law_late"] ["_law_plan_here", "_law_other", "_law_box_here"] (defScope sBeside) := ⟨rfl, rfl, rfl, by decide +kernel, rfl, by decide +kernel, by decide +kernel⟩
theorem ok_beside (T : Txt mg) (D1 : DefOk P w K mg base "live_pairs" ["program", "buffers"] 9 (SpD fLive)) (D2 : DefOk P w K mg base "fewest_steps" ["program", "buffers"] 11 (SpD fFew)) (D3 : DefOk P w K mg base "least_room" ["program", "word"] 10 (SpD fRoom)) (D4 : DefOk P w K mg base "_law_least" ["_law_some"] 1 (SpG pLeast))
    (h : Here K mg "_law_beside_right" sBeside ["_law_plan_here", "_law_other", "_law_box_here"]) : DefOk P w K mg base "_law_beside_right" ["_law_plan_here", "_law_other", "_law_box_here"] 12 (SpD fBeside) := h.ok fun F => by
  refine F.ok scBeside (fun vs H Q E h => ?_) (fun cdv A outer s H vs Q E hr h => ?_)
  · obtain ⟨_, ⟨ds, d, r, ⟨p, q, line, room, rfl, _⟩, _⟩, _⟩ := h
    exact r.length
  · obtain ⟨_, ⟨ds, d, r, ⟨p, q, line, room, rfl, smp, smq, sms, hap, hroom, rfl⟩, rfl⟩, k⟩ := h
    obtain ⟨v1, v2, v3, rfl, r1, r2, r3⟩ := r.inv3
    have nd := scBeside.nd
    have hu2 := hu65 hr
    have hu3 := Nat.lt_of_le_of_lt (Nat.add_le_add_left (by decide : 64 ≤ 65) _) hu2
    have h9 := hr.mono (show 9 ≤ 11 by decide)
    refine ⟨_, pss_cons (ps_asg (pe_tup (pa_cons (pe_op (op_catK K) (pv 0) (pv 1)) (pa_cons (pe_callB call_len_seq (by rfl) T.len PySem.boot_len (pa_cons (pv 0) pa_nil)) pa_nil))) (pg_tup (by rfl) (pgs_cons (pg_name (i := 3) nd rfl (.inl rfl)) (pgs_cons (pg_name (i := 4) nd rfl (.inr rfl)) pgs_nil))))
      (pss_cons (ps_set (i := 5) nd rfl (Or.inl rfl) (pe_def D1 h9 rfl (pa_cons (pv 0) (pa_cons (pv 2) pa_nil)) pass0))
      (pss_cons (ps_set (i := 5) nd rfl (Or.inl rfl) (pe_op (op_catK K) (pv 5) (pe_callTy call_tuple_of (by rfl) T.tuple PyProof.Rows.boot_tuple (pa_cons
        (pe_lc (own := [("_law_thread", 6), ("_law_early", 7), ("_law_late", 8)]) (g := gTup K 3 (gCons (gName 6) (gCons (gName 7) (gCons (gName 8) gNil)))) (tt := tYes) rfl nd (pi_tup (pe_def D1 h9 rfl (pa_cons (pv 1) (pa_cons (pv 2) pa_nil)) pass0)) (blkOk_by (N := ["_law_plan_here", "_law_other", "_law_box_here", "_law_both", "_law_many", "_law_due", "_law_thread", "_law_early", "_law_late"]) (sc := defScope sBeside) (by decide +kernel))
          (fun _ _ _ _ _ => pg_tup (by rfl) (pgs_cons (pg_name (i := 6) nd rfl (Or.inl rfl)) (pgs_cons (pg_name (i := 7) nd rfl (Or.inl rfl)) (pgs_cons (pg_name (i := 8) nd rfl (Or.inl rfl)) pgs_nil)))) (fun _ _ _ _ _ => pts_nil)
          (fun _ _ _ _ _ => pe_tup (pa_cons (pe_op op_add (pv 6) (pv 4)) (pa_cons (pv 7) (pa_cons (pv 8) pa_nil))))) pa_nil))))
      (pss_cons (ps_if (pt_cmpR (op_neD hu3) (pe_def D1 h9 rfl (pa_cons (pv 3) (pa_cons (pv 2) pa_nil)) pass0) (pv 5) (nomark _)) (pss_one (ps_ret pe_bl)) pss_nil)
      (pss_cons (ps_if (pt_cmpR (op_neD hu3) (pe_def D2 hr rfl (pa_cons (pv 3) (pa_cons (pv 2) pa_nil)) pass0) (pe_def D4 (hr.mono (by decide)) rfl (pa_cons (pe_lst (pa_cons (pe_def D2 hr rfl (pa_cons (pv 0) (pa_cons (pv 2) pa_nil)) pass0) (pa_cons (pe_def D2 hr rfl (pa_cons (pv 1) (pa_cons (pv 2) pa_nil)) pass0) pa_nil))) pa_nil) pass0) (nomark _)) (pss_one (ps_ret pe_bl)) pss_nil)
      (pss_one (ps_ret (pe_cmpR (op_eqD hu3) (pe_def D3 (hr.mono (by decide)) rfl (pa_cons (pv 3) (pa_cons (pe_ix (ixT K) (pv 2) pe_int (fun _ _ => rfl)) pa_nil)) pass0)
        (pe_def D4 (hr.mono (by decide)) rfl (pa_cons (pe_lst (pa_cons (pe_def D3 (hr.mono (by decide)) rfl (pa_cons (pv 0) (pa_cons (pe_ix (ixT K) (pv 2) pe_int (fun _ _ => rfl)) pa_nil)) pass0) (pa_cons (pe_def D3 (hr.mono (by decide)) rfl (pa_cons (pv 1) (pa_cons (pe_ix (ixT K) (pv 2) pe_int (fun _ _ => rfl)) pa_nil)) pass0) pa_nil))) pa_nil) pass0) (nomark _)))))))), ?_⟩
    have fp := smp.few5
    have fq := smq.few5
    refine q_tup2 (d1 := progD (p ++ q)) (d2 := .int (p.length : Nat)) (evd_tup (ds := [progD (p ++ q), .int (p.length : Nat)]) (evds_cons ((evd_cat (evd_var rfl r1) (evd_var rfl r2) (by rw [List.length_map, List.length_map]; omega)).is (by rw [← List.map_append]; rfl)) (evds1 ((evd_len (evd_var rfl r1)).is (by rw [List.length_map])))) (by show 2 ≤ 100000; decide)) fun vb vm H1 e1 rb rm => ?_
    rw [rm.int_inv]
    have R1 := r1.ex e1
    have R2 := r2.ex e1
    have R3 := r3.ex e1
    refine q_asgR (R := Dt (.tuple ((live p line room).map triD))) (evd_call (evds_cons (evd_var rfl R1) (evds1 (evd_var rfl R3))) ⟨p, line, room, rfl, smp.toProgOk, rfl⟩) fun vd H2 e2 rd => ?_
    have lp := live_len (line := line) (room := room) smp.toProgOk
    have lq := live_len (line := line) (room := room) smq.toProgOk
    refine q_asgR (R := Dt (.tuple ((live (p ++ q) line room).map triD))) ((evd_cat (evd_var rfl rd) (evd_tupL (evld_tri (xs := live q line room) (f := fun _ => true) (g := fun t => triD (up p.length t)) (evd_call (evds_cons (evd_var rfl (R2.ex e2)) (evds1 (evd_var rfl (R3.ex e2)))) ⟨q, line, room, rfl, smq.toProgOk, rfl⟩) (by omega) (fun x y z => rfl) (fun t H3 e3 ht => evt_yes)
        (fun t H3 e3 ht _ => evd_tup (ds := [.int ((t.1 + p.length : Nat) : Int), .int (t.2.1 : Nat), .int (t.2.2 : Nat)]) (evds_cons ((evd_I0 (g := fun i j => i + j) (evd_var (d := .int (t.1 : Nat)) rfl (.int _)) (evd_var (d := .int (p.length : Nat)) rfl (.int _))).is rfl) (evds_cons (evd_var rfl (.int _)) (evds1 (evd_var rfl (.int _))))) (by show 3 ≤ 100000; decide))).ld) ?_).is ?_) fun vd2 H3 e3 rd2 => ?_
    · rw [filter_yes, List.length_map, List.length_map]; omega
    · rw [filter_yes, live_append hap, List.map_append, List.map_map]
      rfl
    have e23 := e2.trans e3
    have Rb := rb.ex e23
    have R3' := R3.ex e23
    -- live pairs
    refine q_when (b := false) (et_is (evt_B (evd_neD (evd_call (d := .tuple ((live (p ++ q) line room).map triD)) (evds_cons (evd_var rfl Rb) (evds1 (evd_var rfl R3'))) ⟨p ++ q, line, room, rfl, sms.toProgOk, rfl⟩) (evd_var rfl rd2) (tris_shaped _) (tris_shaped _))) (by rw [eqv_shaped (tris_shaped _)]; rfl)) (fun z => (by cases z)) (fun _ H4 e4 => ?_)
    have e24 := e23.trans e4
    have Rb4 := rb.ex e24
    have R34 := R3.ex e24
    have R14 := R1.ex e24
    have R24 := R2.ex e24
    -- the fewest steps
    have hfew : fewO (p ++ q) line room = leastO (fewO p line room) (fewO q line room) := fewest_append hap (fewO_spec _ _ _) (fewO_spec _ _ _) (fewO_spec _ _ _)
    refine q_when (b := false) (et_is (evt_B (evd_neD (d := optD (fewO (p ++ q) line room)) (d' := optD (fewO (p ++ q) line room)) (evd_call (evds_cons (evd_var rfl Rb4) (evds1 (evd_var rfl R34))) ⟨p ++ q, line, room, rfl, sms, hroom, rfl⟩)
      (evr_callL (R := Dt (optD (fewO (p ++ q) line room))) (evld_lst (ds := [optD (fewO p line room), optD (fewO q line room)]) (evds_cons (evd_call (evds_cons (evd_var rfl R14) (evds1 (evd_var rfl R34))) ⟨p, line, room, rfl, smp, hroom, rfl⟩) (evds1 (evd_call (evds_cons (evd_var rfl R24) (evds1 (evd_var rfl R34))) ⟨q, line, room, rfl, smq, hroom, rfl⟩))) (by show 2 ≤ 100000; decide)) fun v H5 e5 hl => ⟨v, _, _, rfl, hl, by rw [hfew]⟩)
      (optD_shaped _) (optD_shaped _))) (by rw [eqv_shaped (optD_shaped _)]; rfl)) (fun z => (by cases z)) (fun _ H5 e5 => ?_)
    have e25 := e24.trans e5
    have hroomO := leastRoom_append hap line
    have ebox : ∀ {σ : L2.St} {H' : Hp}, σ[2]? = some (some v3) → Ex H1 H' → EvD (tOp (rIxT K) (tVar 2) (tC (.int 0))) σ H' (.str (wordS line)) := fun hs e => evd_ix (evd_var hs (R3.ex e)) evd_int atI_0
    refine s_retR ((evd_eqD (d := optD (leastRoom (p ++ q) line)) (d' := optD (leastRoom (p ++ q) line)) (evd_call (evds_cons (evd_var rfl (rb.ex e25)) (evds1 (ebox rfl e25))) ⟨p ++ q, line, rfl, sms.toProgOk, rfl⟩)
      (evr_callL (R := Dt (optD (leastRoom (p ++ q) line))) (evld_lst (ds := [optD (leastRoom p line), optD (leastRoom q line)]) (evds_cons (evd_call (evds_cons (evd_var rfl (R1.ex e25)) (evds1 (ebox rfl e25))) ⟨p, line, rfl, smp.toProgOk, rfl⟩) (evds1 (evd_call (evds_cons (evd_var rfl (R2.ex e25)) (evds1 (ebox rfl e25))) ⟨q, line, rfl, smq.toProgOk, rfl⟩))) (by show 2 ≤ 100000; decide)) fun v H6 e6 hl => ⟨v, _, _, rfl, hl, by rw [hroomO]⟩)
      (optD_shaped _) (optD_shaped _)).is (by rw [eqv_shaped (optD_shaped _)])) fun v H6 e6 r => k v H6 ((e1.trans e25).trans e6) r
end
end RFW
end

section
set_option Elab.async false
set_option linter.all false
set_option maxRecDepth 100000
set_option maxHeartbeats 4000000
/-! the law's more_right. -/
namespace RFW
open PySem L2 Evl RF
abbrev sMore : Stmt := top 40
theorem op_inK {X : Cx} (K : PySem.W.Frag) (hu : X.A.units + 65 < cLine) (hK : X.K = K := by rfl) : OpR X (compareOp .In) (rInT K false) := by subst hK; exact op_inTd hu
section
variable {K : PySem.W.Frag} {σ : L2.St} {H : Hp} {ta tb te : TE} {p : P'} {R : Rel}
theorem prog_paired {H : Hp} : ∀ {p : P'} {vs : List V}, TdAll H vs (p.map thD) → ∃ (bs : List Addr) (xss : List (List V)), vs = bs.map V.ref ∧ Paired (fun b xs => H b = some (.tup xs)) bs xss ∧ TdAll H xss.flatten (p.flatten.map insD)
  | [], _, h => by cases h; exact ⟨[], [], rfl, .nil, .nil⟩
  | t :: r, _, h => by
    cases h with
    | cons h1 h2 =>
      obtain ⟨b, xs, rfl, hb, _, hx⟩ := Td.tup_inv h1
      obtain ⟨bs, xss, rfl, hp, hf⟩ := prog_paired h2
      refine ⟨b :: bs, xs :: xss, rfl, .cons hb hp, ?_⟩
      rw [List.flatten_cons, List.flatten_cons, List.map_append]
      exact hx.append hf
theorem evd_sumT (h1 : EvD ta σ H (progD p)) (h2 : EvD tb σ H (.tuple [])) (hz : p.flatten.length ≤ 100000) : EvD (tCB rSumT (tCons ta (tCons tb tNil))) σ H (.tuple (p.flatten.map insD)) := fun H1 e Q q =>
  h1 H1 e _ fun v H2 e2 r1 => h2 H2 (e.trans e2) _ fun y H3 e3 r2 => by
    obtain ⟨a, xs, rfl, hx, _, r⟩ := (r1.ex e3).tup_inv
    obtain ⟨b, ys, rfl, hy, _, ry⟩ := r2.tup_inv
    have := ry.nil_inv
    subst this
    obtain ⟨bs, xss, rfl, hp, hf⟩ := prog_paired r
    have hl := hf.length
    rw [List.length_map] at hl
    exact ⟨a, b, bs, xss, rfl, hx, hy, hp, by omega, fun c H' ec hc => q _ H' ((e2.trans e3).trans ec) (.tup hc (by omega) (hf.ex ec))⟩
end
theorem vars_filter : ∀ is : List I', ((is.filter Ins.isAcc).map fun i => match i.var? with | some x => PyData.str x | none => .none) = strsD (is.filterMap Ins.var?)
  | [] => rfl
  | .fence :: r => by
    show ((r.filter Ins.isAcc).map _) = _
    rw [vars_filter r]; rfl
  | .acc k x :: r => by
    show PyData.str x :: ((r.filter Ins.isAcc).map _) = _
    rw [vars_filter r]; rfl
theorem strs_inv {H : Hp} : ∀ {ss : List Str} {vs : List V}, TdAll H vs (strsD ss) → vs = strsV ss
  | [], _, h => by cases h; rfl
  | x :: r, _, h => by
    cases h with
    | cons h1 h2 => rw [h1.str_inv, strs_inv h2]; rfl
theorem any_eqv {qs : List Tri} {q : Tri} (h : q ∈ qs) : ((qs.map triD).any fun z => PyData.eqv z (triD q)) = true := List.any_eq_true.mpr ⟨triD q, List.mem_map.mpr ⟨q, h, rfl⟩, eqv_shaped (shaped_of (triD_lay q) (by decide))⟩
theorem cut_take {α : Type} {xs : List α} {k : Nat} (h : k ≤ xs.length) : cutD xs none (some (k : Int)) = xs.take k := by
  unfold cutD
  rw [HT.sIx_none, HT.sIx_nat, Nat.min_eq_left h]
  simp
theorem cut_drop {α : Type} {xs : List α} {k : Nat} (h : k ≤ xs.length) : cutD xs (some (k : Int)) none = xs.drop k := by
  unfold cutD
  rw [HT.sIx_none, HT.sIx_nat, Nat.min_eq_left h]
  rw [List.take_of_length_le]
  rw [List.length_drop]; exact Nat.le_refl _
/-- the program with more at the end of one thread -/
def grown (p : P') (k : Nat) (is : T') : P' := p.take k ++ (th p k ++ is) :: p.drop (k + 1)
def rSortX (w : World) : List V → Hp → VK → Prop := fun vs H Q => ∃ p xs n, vs = [V.ref p] ∧ H p = some (setXO w p xs n) ∧ n ≤ 1000 ∧ ∀ l (ys : List Str), H l = none → ys.length = n → (∀ y ∈ ys, y ∈ xs) → Q (.ref l) (upd H l (.lst (ys.map .str)))
def rSetX (w : World) : List V → Hp → VK → Prop := fun vs H Q => ∃ l xs, vs = [V.ref l] ∧ H l = some (.lst (xs.map .str)) ∧ xs.length ≤ 1000 ∧ ∀ p n, H p = none → n ≤ xs.length → (0 < xs.length → 0 < n) → Q (.ref p) (upd H p (setXO w p xs n))
theorem names_pipe {K : PySem.W.Frag} {w : World} {σ : L2.St} {H : Hp} {te : TE} {xs : List Str} (elc : EvLd te σ H (strsD xs)) (hxs : xs.length ≤ 18) (hx8 : ∀ x ∈ xs, x ∈ names8) :
    EvR (tSl (rSlL K) (tCB (rSortX w) (tCons (tCB (rSetX w) (tCons (tOp rCat te (tLst (tCons (tC (.str "x")) tNil))) tNil)) tNil)) tNoPart (tPart (tC (.int 6)))) σ H
      (fun v H' => ∃ (sn : Addr) (ys : List Str), v = .ref sn ∧ H sn = none ∧ H' sn = some (.lst (strsV ys)) ∧ 1 ≤ ys.length ∧ ys.length ≤ 6 ∧ ∀ y ∈ ys, y ∈ names8) := fun H1 e1 Q q =>
  elc H1 e1 _ fun p1 vs1 H2 hp1' e2 h1' _ t1 => by
    refine ⟨by show 1 ≤ sizeLine; decide, fun p2 hp2 => ?_⟩
    have e3 : Ex H2 (upd H2 p2 (.lst [V.str "x"])) := Ex.new hp2
    have hv1 := strs_inv t1
    subst hv1
    refine ⟨p1, p2, strsV xs, [V.str "x"], rfl, rfl, e3 _ _ h1', upd_same, ?_, fun p3 hp3 => ?_⟩
    · rw [List.length_map]
      exact Nat.le_trans (Nat.add_le_add hxs (Nat.le_refl _)) (by decide)
    have ecat : strsV xs ++ [V.str "x"] = (xs ++ [("x" : Str)]).map V.str := by rw [List.map_append]; rfl
    refine ⟨p3, xs ++ [("x" : Str)], rfl, (by rw [upd_same, ecat]), by rw [List.length_append, List.length_singleton]; omega, fun p4 m hp4 hm1 hm2 => ?_⟩
    refine ⟨p4, xs ++ [("x" : Str)], m, rfl, upd_same, by rw [List.length_append, List.length_singleton] at hm1; omega, fun p5 ys hp5 hyl hys => ?_⟩
    have hpos : 0 < m := hm2 (by rw [List.length_append, List.length_singleton]; omega)
    refine ⟨6, rfl, p5, strsV ys, rfl, SqL.of upd_same, fun p6 hp6 => ?_⟩
    have ecut : cutV (strsV ys) none (some 6) = strsV (ys.take 6) := by
      show (List.drop 0 (strsV ys)).take (min 6 (strsV ys).length - 0) = _
      rw [List.drop_zero, Nat.sub_zero]
      unfold strsV
      rw [List.map_take]
      exact List.take_eq_take_min.symm
    have E : Ex H1 (upd (upd (upd (upd (upd H2 p2 (.lst [V.str "x"])) p3 (.lst (strsV xs ++ [V.str "x"]))) p4 (setXO w p4 (xs ++ [("x" : Str)]) m)) p5 (.lst (ys.map .str))) p6 (.lst (cutV (strsV ys) none (some 6)))) := ((((e2.trans e3).trans (Ex.new hp3)).trans (Ex.new hp4)).trans (Ex.new hp5)).trans (Ex.new hp6)
    refine q _ _ E ⟨p6, ys.take 6, rfl, ?_, by rw [upd_same, ecut], by rw [List.length_take]; omega, by rw [List.length_take]; omega, fun y hy => ?_⟩
    · exact fresh_back e1 (fresh_back (((((e2.trans e3).trans (Ex.new hp3)).trans (Ex.new hp4)).trans (Ex.new hp5))) hp6)
    · rcases List.mem_append.mp (hys y (List.mem_of_mem_take hy)) with h | h
      · exact hx8 y h
      · cases List.mem_singleton.mp h
        decide +kernel
section
variable {P : Program} {w : World} {K : PySem.W.Frag} {mg : Str → Option Value} {base : Heap}
/-- urn, plan, box -/
def spMore : Sp := fun vs H Q _ => ∃ (l : Addr) (n : Nat) (p : P') (line : Bool) (room : Nat) (v2 v3 : V), vs = [.ref l, v2, v3] ∧ UrnAt H l n ∧ n + 10 ≤ 1000000 ∧ Td H v2 (progD p) ∧ Td H v3 (boxD line room) ∧ 1 ≤ p.length ∧ p.length ≤ 3 ∧ (∀ t ∈ p, t.length ≤ 6) ∧ Names p names8 ∧ 1 ≤ room ∧
  ∀ H', ExB l H H' → UrnAt H' l (n + 10) → Q (.bl true) H'
theorem names_ok {p : P'} (h : Names p names8) : ∀ t ∈ p, ∀ i ∈ t, VarOk i := fun t ht i hi x hx => strOk8 x (h t ht i hi x hx)
theorem scMore : FnScope ["_law_urn_here", "_law_plan_here", "_law_box_here", "_law_names_here", "_law_thread", "_law_more", "_law_some", "_law_live", "_law_many", "_law_later", "_law_one", "_law_turn", "_law_couple"] ["_law_urn_here", "_law_plan_here", "_law_box_here"] (defScope sMore) := ⟨rfl, rfl, rfl, by decide +kernel, rfl, by decide +kernel, by decide +kernel⟩
theorem ok_more (T : Txt mg) (D1 : DefOk P w K mg base "_law_take" ["_law_urn_here", "_law_many"] 1 spTake) (D2 : DefOk P w K mg base "_law_instruction" ["_law_urn_here", "_law_names_here"] 3 spInstr)
    (D3 : DefOk P w K mg base "live_pairs" ["program", "buffers"] 9 (SpD fLive)) (D4 : DefOk P w K mg base "fewest_steps" ["program", "buffers"] 11 (SpD fFew))
    (h : Here K mg "_law_more_right" sMore ["_law_urn_here", "_law_plan_here", "_law_box_here"]) : DefOk P w K mg base "_law_more_right" ["_law_urn_here", "_law_plan_here", "_law_box_here"] 12 spMore := h.ok fun F => by
  refine F.ok scMore (fun vs H Q E h => ?_) (fun cdv A outer s H vs Q E hr h => ?_)
  · obtain ⟨l, n, p, line, room, v2, v3, rfl, _⟩ := h
    rfl
  · obtain ⟨l, n, p, line, room, v2, v3, rfl, u, hn, r2, r3, hp1, hp3, ht6, hnm, hroom, k⟩ := h
    have nd := scMore.nd
    have hu2 := hu65 hr
    have hu3 := Nat.lt_of_le_of_lt (Nat.add_le_add_left (by decide : 64 ≤ 65) _) hu2
    have h9 := hr.mono (show 9 ≤ 11 by decide)
    have h1 := hr.mono (show 1 ≤ 11 by decide)
    have h3 := hr.mono (show 3 ≤ 11 by decide)
    refine ⟨_, pss_cons (ps_set (i := 3) nd rfl (Or.inr rfl) (pe_slice sl_list (pe_callB (cr_sorted_setX rfl hu3) (by rfl) T.sorted PyProof.Rows.boot_sorted (pa_cons (pe_callTy (cr_setX rfl) (by rfl) T.set PyProof.Rows.boot_set (pa_cons (pe_op op_cat
        (pe_lc (own := [("_law_one", 10)]) (g := gName 10) rfl nd (pi_tup (pe_callB (cr_sumT rfl) (by rfl) T.sum PyProof.Rows.boot_sum (pa_cons (pv 1) (pa_cons (pe_tup pa_nil) pa_nil)))) (blkOk_by (N := ["_law_urn_here", "_law_plan_here", "_law_box_here", "_law_names_here", "_law_thread", "_law_more", "_law_some", "_law_live", "_law_many", "_law_later", "_law_one", "_law_turn", "_law_couple"]) (sc := defScope sMore) (by decide +kernel))
          (fun _ _ _ _ _ => pg_name (i := 10) nd rfl (Or.inl rfl)) (fun _ _ _ _ _ => pts_one (pt_cmpR op_eq (pe_callB (call_lenK K) (by rfl) T.len PySem.boot_len (pa_cons (pv 10) pa_nil)) pe_int (nomark _))) (fun _ _ _ _ _ => pe_ix (ixT K) (pv 10) pe_int (fun _ _ => rfl)))
        (pe_lst (pa_cons pe_str pa_nil))) pa_nil)) pa_nil)) po_none (po_some pe_int)))
      (pss_cons (ps_set (i := 4) nd rfl (Or.inl rfl) (pe_def D1 h1 rfl (pa_cons (pv 0) (pa_cons (pe_callB call_len_seq (by rfl) T.len PySem.boot_len (pa_cons (pv 1) pa_nil)) pa_nil)) pass0))
      (pss_cons (ps_set (i := 5) nd rfl (Or.inl rfl) (pe_callTy call_tuple_of (by rfl) T.tuple PyProof.Rows.boot_tuple (pa_cons
        (pe_lc (own := [("_law_turn", 11)]) (g := gName 11) (tt := tYes) rfl nd (pi_range1 rfl T.range (pa_cons (pe_op op_add pe_int (pe_def D1 h1 rfl (pa_cons (pv 0) (pa_cons pe_int pa_nil)) pass0)) pa_nil)) (blkOk_by (N := ["_law_urn_here", "_law_plan_here", "_law_box_here", "_law_names_here", "_law_thread", "_law_more", "_law_some", "_law_live", "_law_many", "_law_later", "_law_one", "_law_turn", "_law_couple"]) (sc := defScope sMore) (by decide +kernel))
          (fun _ _ _ _ _ => pg_name (i := 11) nd rfl (Or.inl rfl)) (fun _ _ _ _ _ => pts_nil) (fun _ _ _ _ _ => pe_def D2 h3 rfl (pa_cons (pv 0) (pa_cons (pv 3) pa_nil)) pass0)) pa_nil)))
      (pss_cons (ps_set (i := 6) nd rfl (Or.inl rfl) (pe_lst (pa_cons (pe_op (op_catK K) (pv 1) (pe_tup (pa_cons (pv 5) pa_nil)))
        (pa_cons (pe_op (op_catK K) (pe_op (op_catK K) (pe_slice sl_tupA (pv 1) po_none (po_some (pv 4))) (pe_tup (pa_cons (pe_op (op_catK K) (pe_ix (ixT K) (pv 1) (pv 4) (fun _ _ => rfl)) (pv 5)) pa_nil))) (pe_slice sl_tupA (pv 1) (po_some (pe_op op_add (pv 4) pe_int)) po_none)) pa_nil))))
      (pss_cons (ps_par (by rfl) nd (i := 7) (j := 8) rfl rfl (by decide) rfl rfl (pa_cons (pe_def D3 h9 rfl (pa_cons (pv 1) (pa_cons (pv 2) pa_nil)) pass0) (pa_cons (pe_def D4 hr rfl (pa_cons (pv 1) (pa_cons (pv 2) pa_nil)) pass0) pa_nil)) (by rfl))
      (pss_cons (ps_for PassesOwn.never rfl (pi_list (pv 6)) (pg_name (i := 9) nd rfl (.inr rfl))
        (pss_cons (ps_if (pt_not (pt_val (pe_callB (cr_all rfl) (by rfl) T.all PyProof.Rows.boot_all (pa_cons
          (pe_lc (own := [("_law_couple", 12)]) (g := gName 12) (tt := tYes) rfl nd (pi_tup (pv 7)) (blkOk_by (N := ["_law_urn_here", "_law_plan_here", "_law_box_here", "_law_names_here", "_law_thread", "_law_more", "_law_some", "_law_live", "_law_many", "_law_later", "_law_one", "_law_turn", "_law_couple"]) (sc := defScope sMore) (by decide +kernel))
            (fun _ _ _ _ _ => pg_name (i := 12) nd rfl (Or.inl rfl)) (fun _ _ _ _ _ => pts_nil) (fun _ _ _ _ _ => pe_cmpR (op_inK K hu2) (pv 12) (pe_def D3 h9 rfl (pa_cons (pv 9) (pa_cons (pv 2) pa_nil)) pass0) (by rfl))) pa_nil)))) (pss_one (ps_ret pe_bl)) pss_nil)
        (pss_one (ps_if (PW.pt (pw_and (pt_cmpR op_notN (pv 8) pe_non (by rfl)) (pw_and1 (pt_cmpR op_gt (pe_def D4 hr rfl (pa_cons (pv 9) (pa_cons (pv 2) pa_nil)) pass0) (pv 8) (nomark _))))) (pss_one (ps_ret pe_bl)) pss_nil))))
      (pss_one (ps_ret pe_bl))))))), ?_⟩
    -- the names
    have hfl : p.flatten.length ≤ 18 := by
      have : ∀ q : P', (∀ t ∈ q, t.length ≤ 6) → q.flatten.length ≤ 6 * q.length := fun q => by
        induction q with
        | nil => intro _; exact Nat.zero_le _
        | cons t r ih =>
          intro h
          have a := ih fun x hx => h x (List.mem_cons_of_mem _ hx)
          have b := h t List.mem_cons_self
          rw [List.flatten_cons, List.length_append, List.length_cons]
          omega
      have := this p ht6
      omega
    let xs : List Str := p.flatten.filterMap Ins.var?
    have hxs : xs.length ≤ 18 := Nat.le_trans (List.length_filterMap_le _ _) hfl
    have hx8 : ∀ x ∈ xs, x ∈ names8 := fun x hx => by
      obtain ⟨i, hi, hix⟩ := List.mem_filterMap.mp hx
      obtain ⟨t, ht, hit⟩ := List.mem_flatten.mp hi
      exact hnm t ht i hit x hix
    have elc : EvLd (tLc (iTup K (tCB rSumT (tCons (tVar 1) (tCons (tTup tNil) tNil)))) (gName 10) (tTest (tOp rEq (tCB (rLenS K) (tCons (tVar 10) tNil)) (tC (.int 2)))) (tOp (rIxT K) (tVar 10) (tC (.int 1))) [10])
        [some (.ref l), some v2, some v3, none, none, none, none, none, none, none, none, none, none] H (strsD xs) :=
      (evld_mT (D := insD) (f := Ins.isAcc) (c := fun i => match i.var? with | some x => PyData.str x | none => .none) (evd_sumT (evd_var rfl r2) (evd_tup evds_nil (by decide)) (by omega)) (by omega) (fun x => rfl) (fun x i H2 e2 hi hx => et_is (evt_B (evd_eqI (evd_len (evd_var rfl hx)) evd_int)) (insL_len i))
        (fun x i H2 e2 hi hx ha => by
          obtain ⟨y, hy⟩ := var_acc ha
          rw [hy]
          exact evd_ix (evd_var rfl hx) evd_int (insL_1 hy))).is (vars_filter _)
    have enames := names_pipe (K := K) (w := w) elc hxs hx8
    refine q_asgR enames fun vs0 H1 e1 ⟨sn, ys, ev, hsn, hs1, hy1, hy6, hy8⟩ => ?_
    subst ev
    obtain ⟨zs, hlz⟩ := u.lst
    have hsl : sn ≠ l := (ne_of_none hlz hsn).symm
    have u1 := u.ext e1
    have R2 := r2.ex e1
    obtain ⟨pa, pvs, ev2, hpa, _, _⟩ := id R2.tup_inv
    -- thread
    have elen : EvD (tCB (rLenS K) (tCons (tVar 1) tNil)) [some (.ref l), some v2, some v3, some (.ref sn), none, none, none, none, none, none, none, none, none] H1 (.int (p.length : Nat)) := (evd_len (evd_var rfl R2)).is (by rw [List.length_map])
    refine ⟨_, rfl, elen H1 (Ex.refl _) _ fun vl H2 e2 rl => ⟨l, n, p.length, ?_, u1.ext e2, by omega, hp1, by omega, fun k0 H3 hk0 eb3 u3 => ?_⟩⟩
    · rw [rl.int_inv]; rfl
    have E3 : ExB l H H3 := ((ExB.of e1).trans (ExB.of e2)).trans eb3
    have hs3 := eb3 _ _ (e2 _ _ hs1) hsl
    have tk3 : TK H H3 := u.tk E3
    -- more
    refine ⟨_, rfl, l, n + 1, 4, rfl, u3, by omega, by decide, by decide, fun r4 H4 hr4 eb4 u4 => ⟨_, _, rfl, rfl, 1 + (r4 : Int), rfl, by omega, by omega, ?_⟩⟩
    have hs4 := eb4 _ _ hs3 hsl
    have hcnt : (1 + (r4 : Int)).toNat = 1 + r4 := by omega
    intro D hD
    show ∃ W : Nat → Nat → Hp → Prop, _
    rw [hcnt]
    refine instr_lc (σ := [some (.ref l), some v2, some v3, some (.ref sn), some (.int (k0 : Int)), none, none, none, none, none, none, none, none]) (j := 11) (a := 0) (b := 3) (m := 1 + r4) (ws := [11]) hD (by omega) u4 (by omega) hs4 hsl hy1 (by omega) (fun x => rfl) (fun x => rfl) (fun x => rfl) fun acc is H5 eb5 u5 hD5 hacc hil hin => ?_
    have hal := hacc.length
    rw [List.length_map] at hal
    refine ⟨D, acc, rfl, .inl ⟨SqL.of hD5, fun tt htt => ?_⟩⟩
    have e6 : Ex H5 (upd H5 tt (.tup acc)) := Ex.new htt
    have E6 : ExB l H (upd H5 tt (.tup acc)) := ((E3.trans eb4).trans eb5).trans (ExB.of e6)
    have u6 := (u5.ext e6).mono (show n + 1 + 1 + 2 * (1 + r4) ≤ n + 10 by omega) (by omega)
    have tt6 : Td (upd H5 tt (.tup acc)) (.ref tt) (thD is) := .tup upd_same (by omega) (hacc.ex e6)
    show tSeq _ _ _ [some (.ref l), some v2, some v3, some (.ref sn), some (.int (k0 : Int)), some (.ref tt), none, none, none, none, none, none, none] (upd H5 tt (.tup acc))
    generalize upd H5 tt (.tup acc) = H6 at E6 u6 tt6
    have Q2 : Td H6 v2 (progD p) := r2.keep (u.tk E6)
    have Q3 : Td H6 v3 (boxD line room) := r3.keep (u.tk E6)
    have hk1 : k0 + 1 ≤ p.length := hk0
    have hthk : p[k0]? = some (th p k0) := by
      unfold th
      rw [List.getD_eq_getElem?_getD, List.getElem?_eq_getElem hk0]; rfl
    have his4 : is.length ≤ 4 := by omega
    -- the two larger programs
    refine q_asgR (evld_lst (ds := [progD (p ++ [is]), progD (grown p k0 is)]) (evds_cons ((evd_cat (evd_var rfl Q2) (evd_tup (ds := [thD is]) (evds1 (evd_var rfl tt6)) (by show 1 ≤ 100000; decide)) (by rw [List.length_map]; show _ + 1 ≤ _; omega)).is (by show PyData.tuple _ = PyData.tuple _; rw [List.map_append]; rfl))
      (evds1 ((evd_cat (evd_cat (evd_sl (evd_var rfl Q2) eo_none (eod_some (i := (k0 : Int)) (evd_var rfl (.int _)))) (evd_tup (ds := [thD (th p k0 ++ is)]) (evds1 ((evd_cat (evd_ix (evd_var rfl Q2) (evd_var (d := .int (k0 : Nat)) rfl (.int _)) (atI_map hthk)) (evd_var rfl tt6) ?_).is ?_)) (by show 1 ≤ 100000; decide)) ?_) (evd_sl (evd_var rfl Q2) (eod_some (i := ((k0 + 1 : Nat) : Int)) ((evd_I0 (g := fun i j => i + j) (evd_var (d := .int (k0 : Nat)) rfl (.int _)) evd_int).is rfl)) eo_none) ?_).is ?_))) (by show 2 ≤ 100000; decide)).ld fun vsome H7 e7 hsome => ?_
    · have := ht6 (th p k0) (th_mem hk0)
      rw [List.length_map, List.length_map]; omega
    · show PyData.tuple _ = PyData.tuple _
      rw [List.map_append]
    · rw [cut_take (by rw [List.length_map]; omega), List.length_take, List.length_map]; show _ + 1 ≤ _; omega
    · rw [cut_take (by rw [List.length_map]; omega), cut_drop (by rw [List.length_map]; omega), List.length_append, List.length_take, List.length_drop, List.length_map]; show _ + 1 + _ ≤ _; omega
    · rw [cut_take (by rw [List.length_map]; omega), cut_drop (by rw [List.length_map]; omega)]
      show PyData.tuple _ = PyData.tuple _
      unfold grown
      rw [List.map_append, List.map_cons, List.map_take, List.map_drop, List.append_assoc]
      rfl
    have smp : ProgSm p := { few := by omega, short := fun t ht => by have := ht6 t ht; omega, vars := names_ok hnm, few5 := by omega, short10 := fun t ht => by have := ht6 t ht; omega }
    have hisok : ∀ i ∈ is, VarOk i := fun i hi x hx => strOk8 x (hy8 x (hin i hi x hx))
    have sm1 : ProgSm (p ++ [is]) := by
      have ht : ∀ t ∈ p ++ [is], t.length ≤ 10 := fun t ht => by
        rcases List.mem_append.mp ht with h | h
        · have := ht6 t h; omega
        · cases List.mem_singleton.mp h; omega
      refine { few := by rw [List.length_append, List.length_singleton]; omega, short := fun t h => by have := ht t h; omega, vars := fun t h => ?_, few5 := by rw [List.length_append, List.length_singleton]; omega, short10 := ht }
      rcases List.mem_append.mp h with h | h
      · exact names_ok hnm t h
      · cases List.mem_singleton.mp h; exact hisok
    have sm2 : ProgSm (grown p k0 is) := by
      have hmem : ∀ t ∈ grown p k0 is, t ∈ p ∨ t = th p k0 ++ is := fun t ht => by
        unfold grown at ht
        rcases List.mem_append.mp ht with h | h
        · exact .inl (List.mem_of_mem_take h)
        · rcases List.mem_cons.mp h with h | h
          · exact .inr h
          · exact .inl (List.mem_of_mem_drop h)
      have hlen : (grown p k0 is).length ≤ 4 := by
        unfold grown
        rw [List.length_append, List.length_cons, List.length_take, List.length_drop]; omega
      have ht : ∀ t ∈ grown p k0 is, t.length ≤ 10 := fun t ht => by
        rcases hmem t ht with h | rfl
        · have := ht6 t h; omega
        · have := ht6 _ (th_mem hk0)
          rw [List.length_append]; omega
      refine { few := by omega, short := fun t h => by have := ht t h; omega, vars := fun t h i hi => ?_, few5 := by omega, short10 := ht }
      rcases hmem t h with h | rfl
      · exact names_ok hnm t h i hi
      · rcases List.mem_append.mp hi with hi | hi
        · exact names_ok hnm _ (th_mem hk0) i hi
        · exact hisok i hi
    have two : ∀ d ∈ [progD (p ++ [is]), progD (grown p k0 is)], ∃ p' : P', d = progD p' ∧ ProgSm p' ∧ Le p p' := fun d hd => by
      rcases List.mem_cons.mp hd with rfl | hd
      · exact ⟨_, rfl, sm1, Le.thread p is⟩
      · cases List.mem_singleton.mp hd
        exact ⟨_, rfl, sm2, Le.tail p k0 is hk0⟩
    have ll := live_len (line := line) (room := room) smp.toProgOk
    refine q_par (d1 := .tuple ((live p line room).map triD)) (d2 := optD (fewO p line room)) (evds_cons (evd_call (evds_cons (evd_var rfl (Q2.ex e7)) (evds1 (evd_var rfl (Q3.ex e7)))) ⟨p, line, room, rfl, smp.toProgOk, rfl⟩) (evds1 (evd_call (evds_cons (evd_var rfl (Q2.ex e7)) (evds1 (evd_var rfl (Q3.ex e7)))) ⟨p, line, room, rfl, smp, hroom, rfl⟩))) fun vlive vmany H8 e8 rlive rmany => ?_
    have Q38 := (Q3.ex e7).ex e8
    refine q_forLD (ds := [progD (p ++ [is]), progD (grown p k0 is)]) (evr_var rfl fun H9 e9 => (hsome.ex e8).ex e9) (fun La vs i σ' H' => H' La = some (.lst vs) ∧ TdAll H' vs [progD (p ++ [is]), progD (grown p k0 is)] ∧ Ex H8 H' ∧ ∃ x9, σ' = [some (.ref l), some v2, some v3, some (.ref sn), some (.int (k0 : Int)), some (.ref tt), some vsome, some vlive, some vmany, x9, none, none, none])
      (fun La vs H9 e9 hL hvs => ⟨hL, hvs, e9, _, rfl⟩) (fun La vs i σ' H' ⟨a, b, _⟩ => ⟨a, b⟩) (fun La vs i xv d σ' H' hi hx ⟨hL, hvs, ex, x9, es⟩ => ?_) (fun La vs σ' H' ⟨hL, hvs, ex, x9, es⟩ => ?_)
    · subst es
      obtain ⟨p', rfl, sm', hle⟩ := two d (List.mem_of_getElem? hi)
      refine q_when (b := false) (et_is (et_not (evt_B (evd_all (bs := (live p line room).map fun _ => true) ((evld_mT (D := triD) (f := fun _ => true) (c := fun _ => .bool true) (evd_var rfl (rlive.ex ex)) (by omega) (fun x => rfl) (fun y q H9 e9 hq hy => evt_yes) (fun y q H9 e9 hq hy _ => ?_)).is ?_).ld))) ?_) (fun z => (by cases z)) (fun _ H9 e9 => ?_)
      · refine (evd_inT (neg := false) (d := triD q) (evd_var rfl hy) (evd_call (evds_cons (evd_var rfl (hx.ex e9)) (evds1 (evd_var rfl ((Q38.ex ex).ex e9)))) ⟨p', line, room, rfl, sm'.toProgOk, rfl⟩) (shaped_of (triD_lay q) (by decide)) (tris_shaped _)).is ?_
        show PyData.bool (if false = true then _ else _) = _
        rw [if_neg (by decide), any_eqv (hle.live hq)]
      · rw [filter_yes, List.map_map]; rfl
      · have : ((live p line room).map fun _ => true).all id = true := by
          rw [List.all_map]
          exact List.all_eq_true.mpr fun _ _ => rfl
        rw [this]; rfl
      · refine s_when (b := false) ?_ (fun z => (by cases z)) (fun _ H10 e10 => ⟨(e9.trans e10) _ _ hL, hvs.ex (e9.trans e10), ex.trans (e9.trans e10), _, rfl⟩)
        cases hm : fewO p line room with
        | none =>
          rw [hm] at rmany
          exact et_is (et_and (a := false) (b := true) (evt_B (evd_notN (d := .none) (evd_var rfl ((rmany.ex ex).ex e9)))) fun z => (by cases z)) rfl
        | some m =>
          obtain ⟨m', hm', hle'⟩ := hle.fewest (by rw [← hm]; exact fewO_spec p line room) (fewO_spec p' line room)
          rw [hm] at rmany
          refine et_is (et_and (a := true) (b := false) (evt_B (evd_notN (d := .int (m : Int)) (evd_var rfl ((rmany.ex ex).ex e9)))) fun _ => et_is (evt_B (evd_I0b (g := fun i j => decide (j < i)) (i := (m' : Int)) (j := (m : Int)) ((evd_call (evds_cons (evd_var rfl (hx.ex e9)) (evds1 (evd_var rfl ((Q38.ex ex).ex e9)))) ⟨p', line, room, rfl, sm', hroom, rfl⟩).is (by rw [hm']; rfl)) (evd_var rfl ((rmany.ex ex).ex e9)))) (decide_eq_false (by omega))) rfl
    · subst es
      refine s_ret (v := .bl true) ev_c fun H9 e9 => k H9 (E6.trans (ExB.of (((e7.trans e8).trans ex).trans e9))) (u6.ext (((e7.trans e8).trans ex).trans e9))
end
end RFW
end

section
set_option Elab.async false
set_option linter.all false
set_option maxRecDepth 100000
set_option maxHeartbeats 4000000
/-! the law's right; the law. -/
namespace RFW
open PySem L2 Evl RF
abbrev sRight : Stmt := top 41
abbrev sLaw : Stmt := top 42
theorem sm_of {p : P'} (h1 : p.length ≤ 3) (h2 : ∀ t ∈ p, t.length ≤ 6) (hn : Names p names8) : ProgSm p := { few := by omega, short := fun t ht => by have := h2 t ht; omega, vars := names_ok hn, few5 := by omega, short10 := fun t ht => by have := h2 t ht; omega }
theorem sm_both {p q : P'} (h1 : p.length ≤ 3) (h2 : ∀ t ∈ p, t.length ≤ 6) (hn : Names p names8) (q1 : q.length ≤ 2) (q2 : ∀ t ∈ q, t.length ≤ 4) (qn : Names q names8) : ProgSm (foreign q) ∧ ProgSm (p ++ foreign q) := by
  have fl : (foreign q).length ≤ 2 := by unfold foreign; rw [List.length_map]; exact q1
  have ft : ∀ t ∈ foreign q, t.length ≤ 4 := fun t ht => by
    obtain ⟨u, hu, rfl⟩ := List.mem_map.mp ht
    rw [List.length_map]
    exact q2 u hu
  have fv : ∀ t ∈ foreign q, ∀ i ∈ t, VarOk i := fun t ht i hi => by
    obtain ⟨u, hu, rfl⟩ := List.mem_map.mp ht
    obtain ⟨j, hj, rfl⟩ := List.mem_map.mp hi
    cases j with
    | fence => exact fun x hx => by cases hx
    | acc k y => exact fun x hx => by cases hx; exact fj_ok y (qn u hu _ hj y rfl)
  refine ⟨{ few := by omega, short := fun t ht => by have := ft t ht; omega, vars := fv, few5 := by omega, short10 := fun t ht => by have := ft t ht; omega }, { few := by rw [List.length_append]; omega, short := fun t ht => ?_, vars := fun t ht => ?_, few5 := by rw [List.length_append]; omega, short10 := fun t ht => ?_ }⟩
  · rcases List.mem_append.mp ht with h | h
    · have := h2 t h; omega
    · have := ft t h; omega
  · rcases List.mem_append.mp ht with h | h
    · exact names_ok hn t h
    · exact fv t h
  · rcases List.mem_append.mp ht with h | h
    · have := h2 t h; omega
    · have := ft t h; omega
/-- not beside_right(p, foreign(plan(urn, 2, 4, c)), box) -/
theorem beside_not {σ : L2.St} {i c n : Nat} {l : Addr} {v v4 : V} {p : P'} {line : Bool} {room : Nat} {H : Hp} {Q : Bool → Hp → Prop} (h0 : σ[0]? = some (some (.ref l))) (hi : σ[i]? = some (some v)) (h4 : σ[4]? = some (some v4)) (u : UrnAt H l n) (hn : n + 60 ≤ 1000000) (hc : 1 ≤ c ∧ c ≤ 3)
    (tv : Td H v (progD p)) (t4 : Td H v4 (boxD line room)) (h1 : p.length ≤ 3) (h2 : ∀ t ∈ p, t.length ≤ 6) (hnm : Names p names8) (hroom : 1 ≤ room) (k : ∀ H', ExB l H H' → UrnAt H' l (n + 60) → Q false H') :
    tNot (tB (tCall (SpD fBeside) [] E0 (tCons (tVar i) (tCons (tCall (SpD fForeign) [] E0 (tCons (tCall spPlan [] E0 (tCons (tVar 0) (tCons (tC (.int 2)) (tCons (tC (.int 4)) (tCons (tC (.int (c : Int))) tNil))))) tNil)) (tCons (tVar 4) tNil))))) σ H Q := by
  refine ⟨v, hi, .ref l, h0, l, n, 2, 4, c, rfl, u, hn, by decide, by decide, by decide, hc.1, hc.2, fun vq q H1 eb1 u1 tq q1 q2 qt qn => ?_⟩
  refine ⟨_, ⟨[progD q], progD (foreign q), .one tq, ⟨q, rfl, qn, by omega, fun t ht => by have := qt t ht; omega, rfl⟩, rfl⟩, fun vf H2 e2 rf => ?_⟩
  obtain ⟨s1, s2⟩ := sm_both h1 h2 hnm q2 qt qn
  have tk : TK H H2 := (u.tk eb1).trans (TK.ex e2)
  refine ⟨v4, h4, _, ⟨[progD p, progD (foreign q), boxD line room], .bool true, .cons (tv.keep tk) (.cons rf (.one (t4.keep tk))), ⟨p, foreign q, line, room, rfl, sm_of h1 h2 hnm, s1, s2, apart_foreign hnm qn, hroom, rfl⟩, rfl⟩, fun vb H3 e3 rb => ⟨true, rb.bl_inv, ?_⟩⟩
  exact k H3 (eb1.trans (ExB.of (e2.trans e3))) (u1.ext (e2.trans e3))
/-- not more_right(urn, p, box) -/
theorem more_not {σ : L2.St} {i n : Nat} {l : Addr} {v v4 : V} {p : P'} {line : Bool} {room : Nat} {H : Hp} {Q : Bool → Hp → Prop} (h0 : σ[0]? = some (some (.ref l))) (hi : σ[i]? = some (some v)) (h4 : σ[4]? = some (some v4)) (u : UrnAt H l n) (hn : n + 10 ≤ 1000000)
    (tv : Td H v (progD p)) (t4 : Td H v4 (boxD line room)) (hp : 1 ≤ p.length) (h1 : p.length ≤ 3) (h2 : ∀ t ∈ p, t.length ≤ 6) (hnm : Names p names8) (hroom : 1 ≤ room) (k : ∀ H', ExB l H H' → UrnAt H' l (n + 10) → Q false H') :
    tNot (tB (tCall spMore [] E0 (tCons (tVar 0) (tCons (tVar i) (tCons (tVar 4) tNil))))) σ H Q :=
  ⟨.ref l, h0, v, hi, v4, h4, l, n, p, line, room, v, v4, rfl, u, hn, tv, t4, hp, h1, h2, hnm, hroom, fun H' eb u' => ⟨true, rfl, k H' eb u'⟩⟩
theorem q_ifF {c : TT} {tu tz : TS} {D : Ends} {σ : L2.St} {H : Hp} (G : Hp → Prop) (h : ∀ Q : Bool → Hp → Prop, (∀ H', G H' → Q false H') → c σ H Q) (k : ∀ H', G H' → tz D σ H') : tSeq (tIfS c tu tNext) tz D σ H := h _ fun H' g => iteF (k H' g)
theorem s_ifF {c : TT} {tu : TS} {D : Ends} {σ : L2.St} {H : Hp} (G : Hp → Prop) (h : ∀ Q : Bool → Hp → Prop, (∀ H', G H' → Q false H') → c σ H Q) (k : ∀ H', G H' → D.nx σ H') : tIfS c tu tNext D σ H := h _ fun H' g => iteF (k H' g)
section
variable {P : Program} {w : World} {K : PySem.W.Frag} {mg : Str → Option Value} {base : Heap}
/-- urn -/
def spRight : Sp := fun vs H Q _ => ∃ (l : Addr) (n : Nat), vs = [.ref l] ∧ UrnAt H l n ∧ n + 1000 ≤ 1000000 ∧ ∀ H', ExB l H H' → Q (.bl true) H'
theorem scRight : FnScope ["_law_urn_here", "_law_turn", "_law_plan_here", "_law_other", "_law_box_here"] ["_law_urn_here"] (defScope sRight) := ⟨rfl, rfl, rfl, by decide +kernel, rfl, by decide +kernel, by decide +kernel⟩
theorem ok_right (T : Txt mg) (D1 : DefOk P w K mg base "_law_plan" ["_law_urn_here", "_law_threads", "_law_most", "_law_names_most"] 4 spPlan) (D2 : DefOk P w K mg base "_law_near" ["_law_urn_here"] 4 spNear) (D3 : DefOk P w K mg base "_law_box" ["_law_urn_here"] 3 spBox)
    (D4 : DefOk P w K mg base "_law_beside_right" ["_law_plan_here", "_law_other", "_law_box_here"] 12 (SpD fBeside)) (D5 : DefOk P w K mg base "_law_foreign" ["_law_plan_here"] 1 (SpD fForeign)) (D6 : DefOk P w K mg base "_law_more_right" ["_law_urn_here", "_law_plan_here", "_law_box_here"] 12 spMore)
    (h : Here K mg "_law_right" sRight ["_law_urn_here"]) : DefOk P w K mg base "_law_right" ["_law_urn_here"] 13 spRight := h.ok fun F => by
  refine F.ok scRight (fun vs H Q E h => ?_) (fun cdv A outer s H vs Q E hr h => ?_)
  · obtain ⟨l, n, rfl, _⟩ := h
    rfl
  · obtain ⟨l, n, rfl, u, hn, k⟩ := h
    have nd := scRight.nd
    have h1 := hr.mono (show 1 ≤ 12 by decide)
    have h3 := hr.mono (show 3 ≤ 12 by decide)
    have h4 := hr.mono (show 4 ≤ 12 by decide)
    refine ⟨_, pss_cons (ps_for PassesOwn.never rfl (pi_range1 rfl T.range (pa_cons pe_int pa_nil)) (pg_name (i := 1) nd rfl (.inl rfl))
        (pss_cons (ps_par3 (by rfl) nd (i := 2) (j := 3) (l := 4) rfl rfl rfl (by decide) (by decide) (by decide) rfl rfl rfl (pa_cons (pe_def D1 h4 rfl (pa_cons (pv 0) (pa_cons pe_int (pa_cons pe_int (pa_cons pe_int pa_nil)))) pass0) (pa_cons (pe_slice sl_tupA (pe_def D2 h4 rfl (pa_cons (pv 0) pa_nil) pass0) po_none (po_some pe_int)) (pa_cons (pe_def D3 h3 rfl (pa_cons (pv 0) pa_nil) pass0) pa_nil))) (by rfl))
        (pss_cons (ps_if (pt_not (pt_val (pe_def D4 hr rfl (pa_cons (pv 2) (pa_cons (pe_def D5 h1 rfl (pa_cons (pe_def D1 h4 rfl (pa_cons (pv 0) (pa_cons pe_int (pa_cons pe_int (pa_cons pe_int pa_nil)))) pass0) pa_nil) pass0) (pa_cons (pv 4) pa_nil))) pass0))) (pss_one (ps_ret pe_bl)) pss_nil)
        (pss_cons (ps_if (pt_not (pt_val (pe_def D4 hr rfl (pa_cons (pv 3) (pa_cons (pe_def D5 h1 rfl (pa_cons (pe_def D1 h4 rfl (pa_cons (pv 0) (pa_cons pe_int (pa_cons pe_int (pa_cons pe_int pa_nil)))) pass0) pa_nil) pass0) (pa_cons (pv 4) pa_nil))) pass0))) (pss_one (ps_ret pe_bl)) pss_nil)
        (pss_one (ps_if (PW.pt (pw_or (pt_not (pt_val (pe_def D6 hr rfl (pa_cons (pv 0) (pa_cons (pv 2) (pa_cons (pv 4) pa_nil))) pass0))) (pw_or1 (pt_not (pt_val (pe_def D6 hr rfl (pa_cons (pv 0) (pa_cons (pv 3) (pa_cons (pv 4) pa_nil))) pass0)))))) (pss_one (ps_ret pe_bl)) pss_nil))))))
      (pss_one (ps_ret pe_bl)), ?_⟩
    refine ⟨3, rfl, by decide, by decide, for_range (lo := 0) (n := 3) (fun i σ' H' => ∃ x1 x2 x3 x4, σ' = [some (.ref l), x1, x2, x3, x4] ∧ ExB l H H' ∧ UrnAt H' l (n + 242 * i)) ⟨none, none, none, none, rfl, ExB.refl _ _, u⟩ (fun i σ' H' hi ⟨x1, x2, x3, x4, es, eb, uu⟩ => ?_) (fun σ' H' ⟨x1, x2, x3, x4, es, eb, uu⟩ => ?_)⟩
    · subst es
      -- plan, near, box
      refine ⟨_, rfl, l, n + 242 * i, 3, 5, 3, rfl, uu, by omega, by decide, by decide, by decide, by decide, by decide, fun vp p H1 eb1 u1 tp p1 p3 pt pn => ?_⟩
      refine ⟨_, rfl, l, n + 242 * i + 60, rfl, u1, by omega, fun vo o H2 eb2 u2 to' o1 o3 ot on => ?_⟩
      refine ⟨3, rfl, ?_⟩
      have hsl : ∀ (Q' : VK), (∀ v H3, Ex H2 H3 → Td H3 v (progD o) → Q' v H3) → rSlA K vo none (some 3) H2 Q' := fun Q' hQ => by
        have := (evd_sl (K := K) (σ := []) (H := H2) (te := fun _ H1 Q => Q vo H1) (tl := tNoPart) (th := tPart (tC (.int 3))) (ds := o.map thD) (lo := none) (hi := some 3) (evr_val fun H1 e => to'.ex e) eo_none (eo_some ev_c)) H2 (Ex.refl _) Q' fun v H3 e3 r => hQ v H3 e3 (by
          have hc : cutD (o.map thD) none (some (3 : Int)) = o.map thD := by
            unfold cutD
            rw [HT.sIx_none]
            have : HT.sIx (o.map thD).length (o.map thD).length (some (3 : Int)) = min 3 (o.map thD).length := HT.sIx_nat _ _ 3
            rw [this, List.drop_zero, List.take_of_length_le]
            rw [List.length_map]; omega
          rw [hc] at r
          exact r)
        obtain ⟨i3, hi3, hres⟩ := this
        cases hi3
        exact hres
      refine hsl _ fun vo' H3 e3 to3 => ?_
      refine ⟨_, rfl, l, n + 242 * i + 100, rfl, u2.ext e3, by omega, fun vb line room H4 eb4 u4 tb hroom => ⟨_, _, _, rfl, ?_⟩⟩
      have u3 := u2.ext e3
      have E4 : ExB l H H4 := (((eb.trans eb1).trans eb2).trans (ExB.of e3)).trans eb4
      have tp4 : Td H4 vp (progD p) := ((tp.keep (u1.tk eb2)).ex e3).keep (u3.tk eb4)
      have to4 : Td H4 vo' (progD o) := to3.keep (u3.tk eb4)
      have pt6 : ∀ t ∈ p, t.length ≤ 6 := fun t ht => by have := pt t ht; omega
      dsimp only
      show tSeq (tIfS _ _ tNext) (tSeq (tIfS _ _ tNext) (tIfS _ _ tNext)) _ [some (.ref l), some (.int ((0 : Int) + (i : Nat))), some vp, some vo', some vb] H4
      -- beside, twice
      refine q_ifF (fun H' => ExB l H4 H' ∧ UrnAt H' l (n + 242 * i + 162)) (fun Q' hQ => beside_not (i := 2) (c := 3) (n := n + 242 * i + 102) rfl rfl rfl u4 (by omega) ⟨by decide, by decide⟩ tp4 tb p3 pt6 pn hroom fun H5 eb5 u5 => hQ H5 ⟨eb5, u5⟩) fun H5 ⟨eb5, u5⟩ => ?_
      have tp5 := tp4.keep (u4.tk eb5)
      have to5 := to4.keep (u4.tk eb5)
      have tb5 := tb.keep (u4.tk eb5)
      refine q_ifF (fun H' => ExB l H5 H' ∧ UrnAt H' l (n + 242 * i + 222)) (fun Q' hQ => beside_not (i := 3) (c := 2) (n := n + 242 * i + 162) rfl rfl rfl u5 (by omega) ⟨by decide, by decide⟩ to5 tb5 o3 ot on hroom fun H6 eb6 u6 => hQ H6 ⟨eb6, u6⟩) fun H6 ⟨eb6, u6⟩ => ?_
      have tp6 := tp5.keep (u5.tk eb6)
      have to6 := to5.keep (u5.tk eb6)
      have tb6 := tb5.keep (u5.tk eb6)
      refine s_ifF (fun H' => ExB l H6 H' ∧ UrnAt H' l (n + 242 * i + 242)) (fun Q' hQ => more_not (i := 2) (n := n + 242 * i + 222) rfl rfl rfl u6 (by omega) tp6 tb6 p1 p3 pt6 pn hroom fun H7 eb7 u7 => ?_) fun H8 ⟨eb8, u8⟩ => ⟨_, _, _, _, rfl, (((E4.trans eb5).trans eb6)).trans eb8, u8.mono (by omega) (by omega)⟩
      refine iteF ?_
      have to7 := to6.keep (u6.tk eb7)
      have tb7 := tb6.keep (u6.tk eb7)
      exact more_not (i := 3) (n := n + 242 * i + 232) rfl rfl rfl u7 (by omega) to7 tb7 o1 o3 ot on hroom fun H8 eb8 u8 => hQ H8 ⟨eb7.trans eb8, u8⟩
    · subst es
      exact k H' eb
/-- script -/
def spLaw (K : PySem.W.Frag) : Sp := fun vs H Q _ => ∃ (a : Addr) (ns : List Int), vs = [.ref a] ∧ SqL K H a (ns.map V.int) ∧ ns.length ≤ 63 ∧ ∀ H', Q (.bl true) H'
theorem scLaw : FnScope ["_law_script", "_law_k"] ["_law_script"] (defScope sLaw) := ⟨rfl, rfl, rfl, by decide +kernel, rfl, by decide +kernel, by decide +kernel⟩
theorem law_fn (T : Txt mg) (D1 : DefOk P w K mg base "_law_urn" ["_law_script", "_law_k"] 1 (spUrn K)) (D2 : DefOk P w K mg base "_law_right" ["_law_urn_here"] 13 spRight) {f : Addr} {fd : FuncData} (F : Fun K "law" "law" sLaw f fd) : FnOk P w K mg base CX0 14 f fd ["_law_script"] (spLaw K) := by
  refine F.ok scLaw (fun vs H Q E h => ?_) (fun cdv A outer s H vs Q E hr h => ?_)
  · obtain ⟨a, ns, rfl, _⟩ := h
    rfl
  · obtain ⟨a, ns, rfl, hS, hlen, k⟩ := h
    have nd := scLaw.nd
    refine ⟨_, pss_one (ps_ret (pe_callB (cr_all rfl) (by rfl) T.all PyProof.Rows.boot_all (pa_cons
      (pe_lc (own := [("_law_k", 1)]) (g := gName 1) (tt := tYes) rfl nd (pi_range1 rfl T.range (pa_cons (pe_callB (call_max2 rfl) (by rfl) T.max PyProof.Rows.boot_max (pa_cons pe_int (pa_cons (pe_callB (call_min2 rfl) (by rfl) T.min PyProof.Rows.boot_min (pa_cons pe_int (pa_cons (pe_callB call_len_seq (by rfl) T.len PySem.boot_len (pa_cons (pv 0) pa_nil)) pa_nil))) pa_nil))) pa_nil)) (blkOk_by (N := ["_law_script", "_law_k"]) (sc := defScope sLaw) (by decide +kernel))
        (fun _ _ _ _ _ => pg_name (i := 1) nd rfl (Or.inl rfl)) (fun _ _ _ _ _ => pts_nil) (fun _ _ _ _ _ => pe_def D2 hr rfl (pa_cons (pe_def D1 (hr.mono (by decide)) rfl (pa_cons (pv 0) (pa_cons (pv 1) pa_nil)) pass0) pa_nil) pass0)) pa_nil))), ?_⟩
    -- how many
    let m : Nat := if 2 ≤ ns.length then 2 else 1
    have hm : m ≤ 2 := by show (if 2 ≤ ns.length then 2 else 1) ≤ 2; split <;> decide
    have ecount : EvDs (tCons (tCB (fun xs H Q => ∃ i j, xs = [.int i, .int j] ∧ Q (.int (if j > i then j else i)) H) (tCons (tC (.int 1)) (tCons (tCB (fun xs H Q => ∃ i j, xs = [.int i, .int j] ∧ Q (.int (if j < i then j else i)) H) (tCons (tC (.int 2)) (tCons (tCB (rLenS K) (tCons (tVar 0) tNil)) tNil))) tNil))) tNil) [some (.ref a), none] H [.int (m : Nat)] := by
      refine evds1 (fun H1 e Q q => ⟨_, rfl, a, _, rfl, .inl (ex_l e hS), 2, _, rfl, 1, _, rfl, ?_⟩)
      refine q _ H1 (Ex.refl _) ?_
      rw [List.length_map]
      have : (if (if ((ns.length : Nat) : Int) < 2 then ((ns.length : Nat) : Int) else 2) > 1 then (if ((ns.length : Nat) : Int) < 2 then ((ns.length : Nat) : Int) else 2) else 1) = ((m : Nat) : Int) := by
        show _ = (((if 2 ≤ ns.length then 2 else 1 : Nat)) : Int)
        by_cases h : 2 ≤ ns.length
        · rw [if_pos h, if_neg (by omega : ¬ ((ns.length : Nat) : Int) < 2)]
          rfl
        · rw [if_neg h, if_pos (by omega : ((ns.length : Nat) : Int) < 2), if_neg (by omega)]
          rfl
      rw [this]
      exact .int _
    refine s_retR (R := Dt (.bool true)) ((evd_all (bs := (List.range m).map fun _ => true) ((evld_lcR (n := m) (f := fun _ => true) (c := fun _ => .bool true) ecount (by omega) (fun x => rfl) (fun i H1 e1 hi => evt_yes) (fun i H1 e1 hi _ => ?_)).is ?_).ld).is ?_) fun v H1 e1 r => ?_
    · intro H2 e2 Q' q
      refine ⟨_, rfl, _, rfl, a, ns, i, rfl, ex_l (e1.trans e2) hS, by omega, fun l H3 hl e3 u => ⟨l, 0, rfl, u, by decide, fun H4 eb => q (.bl true) H4 (eb.ex e3 hl) (.bl true)⟩⟩
    · rw [filter_yes, List.map_map]; rfl
    · show PyData.bool _ = PyData.bool true
      congr 1
      rw [List.all_map]
      exact List.all_eq_true.mpr fun _ _ => rfl
    · rw [Td.bl_inv r]
      exact k H1
end
end RFW
end

section
set_option Elab.async false
set_option linter.all false
set_option maxRecDepth 100000
set_option maxHeartbeats 4000000
/-! The chain; what the top has written, as facts. -/
namespace RFW
open PySem L2 Evl RF
section
variable {K : PySem.W.Frag} {h : Heap} {mg : Str → Option Value} {x qual : Str} {st : Stmt} {ps : List Str} {f C : Addr} {oc : Value} {od an : Option Addr} {osl : Array (Option Value)} {kV doc pm cdv ct : Value}
theorem here_of (X : K.In h) (G : h.Ns mainGlobals mg) (a : PySem.W.nsIn K mainGlobals x = some (some (.ref f))) (l : K.lookup f = some ⟨oc, od, .func (PySem.W.fnOf x x (defArgs st) (defBody st) (defScope st) .none kV doc pm an cdv ct), osl⟩) (c : PySem.W.codeIn K cdv x = true) (k : PySem.W.keepIn K (.ref f) = true)
    (hb : ∀ (kV doc pm : Value) (an : Option Addr) (cdv ct : Value) (us : List Value), us.length = ps.length → bindArgs (PySem.W.fnOf x x (defArgs st) (defBody st) (defScope st) .none kV doc pm an cdv ct) ⟨us, []⟩ = pure (ps.zip us)) : Here K mg x st ps :=
  ⟨f, _, PySem.W.mg_of X G a, fun_mk l c k, (fun_mk l c k).binds hb⟩
theorem herem_of (a : PySem.W.findIn K (.ref C) x = some (some (.ref f))) (i : PySem.W.isFn K (.ref f) = true) (l : K.lookup f = some ⟨oc, od, .func (PySem.W.fnOf x qual (defArgs st) (defBody st) (defScope st) .none kV doc pm an cdv ct), osl⟩) (c : PySem.W.codeIn K cdv qual = true) (k : PySem.W.keepIn K (.ref f) = true)
    (hb : ∀ (kV doc pm : Value) (an : Option Addr) (cdv ct : Value) (us : List Value), us.length = ps.length → bindArgs (PySem.W.fnOf x qual (defArgs st) (defBody st) (defScope st) .none kV doc pm an cdv ct) ⟨us, []⟩ = pure (ps.zip us)) : HereM K C x qual st ps :=
  ⟨f, _, ⟨a, i, k⟩, fun_mk l c k, (fun_mk l c k).binds hb⟩
theorem herei_of (X : K.In h) (G : h.Ns mainGlobals mg) (ac : PySem.W.nsIn K mainGlobals x = some (some (.ref C))) (mk : PySem.W.makesIn K C = true) (kc : PySem.W.keepIn K (.ref C) = true) (a : PySem.W.findIn K (.ref C) "__init__" = some (some (.ref f))) (i : PySem.W.isFn K (.ref f) = true)
    (l : K.lookup f = some ⟨oc, od, .func (PySem.W.fnOf "__init__" qual (defArgs st) (defBody st) (defScope st) .none kV doc pm an cdv ct), osl⟩) (c : PySem.W.codeIn K cdv qual = true) (k : PySem.W.keepIn K (.ref f) = true)
    (hb : ∀ (kV doc pm : Value) (an : Option Addr) (cdv ct : Value) (us : List Value), us.length = ps.length → bindArgs (PySem.W.fnOf "__init__" qual (defArgs st) (defBody st) (defScope st) .none kV doc pm an cdv ct) ⟨us, []⟩ = pure (ps.zip us)) : HereI K mg C x qual st ps :=
  ⟨f, _, PySem.W.mg_of X G ac, ⟨mk, a, i, kc⟩, fun_mk l c k, (fun_mk l c k).binds hb⟩
end
structure AllWays (K : PySem.W.Frag) (mg : Str → Option Value) (C : Addr) : Prop where
  t : TWays K C
  h0 : HereI K mg C "Ways" "Ways.__init__" sWI ["self", "program", "home", "late"]
  h_enter : HereM K C "enter" "Ways.enter" sWE ["self", "state", "place", "ahead"]
  h_go_on : HereM K C "go_on" "Ways.go_on" sWG ["self", "state"]
  h_ring_to : HereM K C "ring_to" "Ways.ring_to" sWR ["self", "early"]
  h_ring_over : HereM K C "ring_over" "Ways.ring_over" sWO ["self", "state", "at"]
structure AllTrip (K : PySem.W.Frag) (mg : Str → Option Value) (C : Addr) : Prop where
  t : TTrip K C
  h0 : HereI K mg C "Trip" "Trip.__init__" sTI ["self", "instructions", "buffers", "thread", "goal"]
  h_queue_of : HereM K C "queue_of" "Trip.queue_of" sTQ ["self", "at"]
  h_flush : HereM K C "flush" "Trip.flush" sTF ["self", "at"]
  h_make_way : HereM K C "make_way" "Trip.make_way" sTM ["self", "at"]
  h_settle : HereM K C "settle" "Trip.settle" sTS ["self", "goal"]
structure AllSearch (K : PySem.W.Frag) (mg : Str → Option Value) (C : Addr) : Prop where
  t : TSearch K C
  h0 : HereI K mg C "Search" "Search.__init__" sSI ["self", "program", "buffers", "home", "late"]
  h_steps_to : HereM K C "steps_to" "Search.steps_to" sSS ["self", "thread", "at"]
  h_enter : HereM K C "enter" "Search.enter" sSE ["self", "used", "place", "trail"]
  h_trails_from : HereM K C "trails_from" "Search.trails_from" sSF ["self", "state"]
  h_trails_to : HereM K C "trails_to" "Search.trails_to" sST ["self", "early"]
structure AllDefs (K : PySem.W.Frag) (mg : Str → Option Value) : Prop where
  d_is_access_to : Here K mg "is_access_to" sAcc ["instruction"]
  d_does_store : Here K mg "does_store" sDoes ["instruction"]
  d_empties : Here K mg "empties" sEmp ["instruction"]
  d_instruction_at : Here K mg "instruction_at" sAt ["program", "place"]
  d_meets : Here K mg "meets" sMeets ["program", "one", "other"]
  d_queued : Here K mg "queued" sQueued ["instructions", "word", "early", "late"]
  d_is_turnable : Here K mg "is_turnable" sTurn ["instructions", "word", "early", "late"]
  d_loose_pairs : Here K mg "loose_pairs" sLoose ["program", "buffers"]
  d_first_meeting : Here K mg "first_meeting" sFirst ["program", "place", "thread"]
  d_exits_from : Here K mg "exits_from" sExits ["instructions", "entry"]
  d_rings_of : Here K mg "rings_of" sRings ["program", "buffers"]
  d_live_pairs : Here K mg "live_pairs" sLive ["program", "buffers"]
  d_least_room : Here K mg "least_room" sRoom ["program", "word"]
  d_best_trail : Here K mg "best_trail" sBest ["program", "buffers"]
  d_fewest_steps : Here K mg "fewest_steps" sFew ["program", "buffers"]
  d_law_urn : Here K mg "_law_urn" sUrn ["_law_script", "_law_k"]
  d_law_take : Here K mg "_law_take" sTake ["_law_urn_here", "_law_many"]
  d_law_of : Here K mg "_law_of" sOf ["_law_urn_here", "_law_some"]
  d_law_names : Here K mg "_law_names" sNames ["_law_urn_here", "_law_many"]
  d_law_instruction : Here K mg "_law_instruction" sInstr ["_law_urn_here", "_law_names_here"]
  d_law_plan : Here K mg "_law_plan" sPlan ["_law_urn_here", "_law_threads", "_law_most", "_law_names_most"]
  d_law_near : Here K mg "_law_near" sNear ["_law_urn_here"]
  d_law_box : Here K mg "_law_box" sBox ["_law_urn_here"]
  d_law_least : Here K mg "_law_least" sLeast ["_law_some"]
  d_law_foreign : Here K mg "_law_foreign" sForeign ["_law_plan_here"]
  d_law_beside_right : Here K mg "_law_beside_right" sBeside ["_law_plan_here", "_law_other", "_law_box_here"]
  d_law_more_right : Here K mg "_law_more_right" sMore ["_law_urn_here", "_law_plan_here", "_law_box_here"]
  d_law_right : Here K mg "_law_right" sRight ["_law_urn_here"]
theorem chain {P : Program} {w : World} {K : PySem.W.Frag} {mg : Str → Option Value} {CW CT CS : Addr} (T : Txt mg) (A : AllDefs K mg) (W : AllWays K mg CW) (R : AllTrip K mg CT) (S : AllSearch K mg CS) (base : Heap) :
    DefOk P w K mg base "_law_urn" ["_law_script", "_law_k"] 1 (spUrn K) ∧ DefOk P w K mg base "_law_right" ["_law_urn_here"] 13 spRight := by
  have dAcc := ok_acc (P := P) (w := w) (base := base) T A.d_is_access_to
  have dDoes := ok_does (P := P) (w := w) (base := base) T A.d_does_store
  have dEmp := ok_emp (P := P) (w := w) (base := base) T A.d_empties
  have dAt := ok_at (P := P) (w := w) (base := base) T A.d_instruction_at
  have dMeets := ok_meets T dAt dDoes A.d_meets
  have dQ := ok_queued (P := P) (w := w) (base := base) T A.d_queued
  have dTurn := ok_turn T dAcc dEmp A.d_is_turnable
  have dLoose := ok_loose T dTurn dQ A.d_loose_pairs
  have dFirst := ok_first T dAcc dMeets A.d_first_meeting
  have dExits := ok_exits T dAcc A.d_exits_from
  have wE := ok_we T W.t dFirst W.h_enter
  have wG := ok_wg T W.t dExits wE W.h_go_on
  have wI := ok_wi T W.t wE wG W.h0
  have wO := ok_ro (P := P) (w := w) (base := base) T W.t W.h_ring_over
  have wR := ok_rt T W.t dExits dMeets wO W.h_ring_to
  have dRings := ok_rings T W.t dLoose wI wR A.d_rings_of
  have dLive := ok_live T dRings A.d_live_pairs
  have dRoom := ok_room T dLive dQ A.d_least_room
  have tF := ok_tf (P := P) (w := w) (base := base) T R.t R.h_flush
  have tQ := ok_tq (P := P) (w := w) (base := base) T R.t R.h_queue_of
  have tM := ok_tm T R.t dEmp tF tQ R.h_make_way
  have tS := ok_ts T R.t tF tQ R.h_settle
  have tI := ok_ti T R.t tM tS R.h0
  have sS := ok_ss T S.t R.t tI S.h_steps_to
  have sE := ok_se T S.t dFirst S.h_enter
  have sF := ok_sf T S.t dExits sS S.h_trails_from
  have sI := ok_si T S.t sS sE sF S.h0
  have sT := ok_st T S.t dMeets sF S.h_trails_to
  have dBest := ok_best T S.t dLive sI sT A.d_best_trail
  have dFew := ok_few T dBest A.d_fewest_steps
  have lUrn := ok_urn (P := P) (w := w) (base := base) T A.d_law_urn
  have lTake := ok_take (P := P) (w := w) (base := base) T A.d_law_take
  have lOf := ok_of T lTake A.d_law_of
  have lNames := ok_names T lTake A.d_law_names
  have lInstr := ok_instr T lTake lOf A.d_law_instruction
  have lPlan := ok_plan T lTake lNames lInstr A.d_law_plan
  have lNear := ok_near T lTake lOf lNames lInstr A.d_law_near
  have lBox := ok_box T lOf A.d_law_box
  have lLeast := ok_least (P := P) (w := w) (base := base) T A.d_law_least
  have lForeign := ok_foreign (P := P) (w := w) (base := base) T A.d_law_foreign
  have lBeside := ok_beside T dLive dFew dRoom lLeast A.d_law_beside_right
  have lMore := ok_more T lTake lInstr dLive dFew A.d_law_more_right
  exact ⟨lUrn, ok_right T lPlan lNear lBox lBeside lForeign lMore A.d_law_right⟩
theorem law_mk {P : Program} {w : World} {K : PySem.W.Frag} {h : Heap} {mg : Str → Option Value} {fa f : Addr} {oc kV doc pm cdv ct : Value} {od an : Option Addr} {osl : Array (Option Value)} (X : K.In h) (G : h.Ns mainGlobals mg) (hfa : mg "law" = some (.ref fa))
    (a : PySem.W.nsIn K mainGlobals "law" = some (some (.ref f))) (l : K.lookup f = some ⟨oc, od, .func (PySem.W.fnOf "law" "law" (defArgs sLaw) (defBody sLaw) (defScope sLaw) .none kV doc pm an cdv ct), osl⟩) (c : PySem.W.codeIn K cdv "law" = true) (k : PySem.W.keepIn K (.ref f) = true)
    (T : Txt mg) (D : ∀ base, DefOk P w K mg base "_law_urn" ["_law_script", "_law_k"] 1 (spUrn K) ∧ DefOk P w K mg base "_law_right" ["_law_urn_here"] 13 spRight) :
    ∃ fd : FuncData, (∀ (s : Shared) (v : Value), BindsTo s fd ⟨[v], []⟩ [("_law_script", v)]) ∧ ∀ base : Heap, K.In base → base.Ns mainGlobals mg → FnOk P w K mg base CX0 14 fa fd ["_law_script"] (spLaw K) := by
  have e := hfa.symm.trans (PySem.W.mg_of X G a)
  cases e
  exact ⟨PySem.W.fnOf "law" "law" (defArgs sLaw) (defBody sLaw) (defScope sLaw) .none kV doc pm an cdv ct, fun s v => .of_eq rfl, fun base _ _ => law_fn T (D base).1 (D base).2 (fun_mk l c k)⟩
theorem law_walk {l : PySem.W.OpenLaw} {q : Program} {loose : List Str} {XP : (Str → Option Value) → Heap → Prop} {YP : World → Heap → Prop} {d : DefRec} {K : Params → PySem.W.Frag} (hn : l.most = some 63) (hdf : d.params.defaults = [])
    (hY : ∀ (w : World) (h : Heap), YP w h → (K w.params).In h)
    (F : ∀ (w : World) (mg : Str → Option Value) (fa : Addr) (h : Heap), (K w.params).In h → h.Ns mainGlobals mg → mg d.name = some (.ref fa) →
      ∃ fd : FuncData, (∀ (s : Shared) (u : Value), BindsTo s fd ⟨[u], []⟩ [("_law_script", u)]) ∧ ∀ base : Heap, (K w.params).In base → base.Ns mainGlobals mg → FnOk l.prog w (K w.params) mg base CX0 14 fa fd ["_law_script"] (spLaw (K w.params))) :
    PySem.W.WalkO q loose XP YP l.row.toRowW d [] (fun f vs => PySem.call f vs) :=
  L2.walk_of (n := 63) (k := 14) (x := "_law_script") (CX := fun _ => CX0) (sp := fun w => spLaw (K w.params)) hn (by decide) hdf ⟨rfl, by decide, by decide⟩ hY F (fun _ _ a ns hl _ hS => ⟨a, ns, rfl, hS, hl, fun _ => rfl⟩) fun _ _ _ _ _ z => z
theorem fin {P : Program} {w : World} {K : PySem.W.Frag} {h : Heap} {mg : Str → Option Value} {fa f : Addr} {oc kV doc pm cdv ct : Value} {od an : Option Addr} {osl : Array (Option Value)} (X : K.In h) (G : h.Ns mainGlobals mg) (hfa : mg "law" = some (.ref fa))
    (T : Txt mg) (A : AllDefs K mg) (W : ∃ C, AllWays K mg C) (R : ∃ C, AllTrip K mg C) (S : ∃ C, AllSearch K mg C)
    (a : PySem.W.nsIn K mainGlobals "law" = some (some (.ref f))) (l : K.lookup f = some ⟨oc, od, .func (PySem.W.fnOf "law" "law" (defArgs sLaw) (defBody sLaw) (defScope sLaw) .none kV doc pm an cdv ct), osl⟩) (c : PySem.W.codeIn K cdv "law" = true) (k : PySem.W.keepIn K (.ref f) = true) :
    ∃ fd : FuncData, (∀ (s : Shared) (v : Value), BindsTo s fd ⟨[v], []⟩ [("_law_script", v)]) ∧ ∀ base : Heap, K.In base → base.Ns mainGlobals mg → FnOk P w K mg base CX0 14 fa fd ["_law_script"] (spLaw K) := by
  obtain ⟨CW, W⟩ := W
  obtain ⟨CT, R⟩ := R
  obtain ⟨CS, S⟩ := S
  exact law_mk X G hfa a l c k T (fun base => chain T A W R S base)
def isS (s : Str) : Value → Bool
  | .str r _ => decide (r = s)
  | _ => false
def isI (i : Int) : Value → Bool
  | .int r _ => decide (r = i)
  | _ => false
theorem gs_of {K : PySem.W.Frag} {h : Heap} {mg : Str → Option Value} {x s : Str} {v : Value} (X : K.In h) (G : h.Ns mainGlobals mg) (a : PySem.W.nsIn K mainGlobals x = some (some v)) (e : isS s v = true) : Gs mg x s := by
  cases v with
  | str r t =>
    have e' : r = s := of_decide_eq_true e
    subst e'
    exact ⟨t, PySem.W.mg_of X G a⟩
  | _ => cases e
theorem gi_of {K : PySem.W.Frag} {h : Heap} {mg : Str → Option Value} {x : Str} {i : Int} {v : Value} (X : K.In h) (G : h.Ns mainGlobals mg) (a : PySem.W.nsIn K mainGlobals x = some (some v)) (e : isI i v = true) : Gi mg x i := by
  cases v with
  | int r t =>
    have e' : r = i := of_decide_eq_true e
    subst e'
    exact ⟨t, PySem.W.mg_of X G a⟩
  | _ => cases e
end RFW
end

set_option Elab.async false
set_option linter.all false
set_option maxRecDepth 100000
open PySem PySem.W PyProof.Rows
set_option maxHeartbeats 0 in
theorem PySem.Challenge.cw_ringfences_k74_whole_programs_side_by_si_holds : PySem.Challenge.rw_ringfences_k74_whole_programs_side_by_si.Holds := by
  w_on; o_law; k_head; (case hw => w_witness2)
  k_fill
  refine RFW.law_walk (l := PySem.Challenge.rw_ringfences_k74_whole_programs_side_by_si) rfl rfl (fun w h Y => PySem.W.kIn_of Y) ?F
  case F =>
    intro w mg fa h KX G hmg
    refine' RFW.fin KX G hmg ?zT ?zA ?zW ?zR ?zS ?za ?zl ?zc ?zk
    (case za => k_is); (case zl => k_is); (case zc => k_is); (case zk => k_is)
    case zT =>
      refine' ⟨RFW.gs_of KX G ?c0 ?e0, RFW.gs_of KX G ?c1 ?e1, RFW.gs_of KX G ?c2 ?e2, RFW.gs_of KX G ?c3 ?e3, RFW.gs_of KX G ?c4 ?e4, RFW.gs_of KX G ?c5 ?e5, RFW.gi_of KX G ?c6 ?e6, PySem.W.mg_none_of KX G ?b0, PySem.W.mg_none_of KX G ?b1, PySem.W.mg_none_of KX G ?b2, PySem.W.mg_none_of KX G ?b3, PySem.W.mg_none_of KX G ?b4, PySem.W.mg_none_of KX G ?b5, PySem.W.mg_none_of KX G ?b6, PySem.W.mg_none_of KX G ?b7, PySem.W.mg_none_of KX G ?b8, PySem.W.mg_none_of KX G ?b9, PySem.W.mg_none_of KX G ?b10, PySem.W.mg_none_of KX G ?b11, PySem.W.mg_none_of KX G ?b12, PySem.W.mg_none_of KX G ?b13⟩
      (case c0 => k_is); (case e0 => first | rfl | decide)
      (case c1 => k_is); (case e1 => first | rfl | decide)
      (case c2 => k_is); (case e2 => first | rfl | decide)
      (case c3 => k_is); (case e3 => first | rfl | decide)
      (case c4 => k_is); (case e4 => first | rfl | decide)
      (case c5 => k_is); (case e5 => first | rfl | decide)
      (case c6 => k_is); (case e6 => first | rfl | decide)
      (case b0 => k_is)
      (case b1 => k_is)
      (case b2 => k_is)
      (case b3 => k_is)
      (case b4 => k_is)
      (case b5 => k_is)
      (case b6 => k_is)
      (case b7 => k_is)
      (case b8 => k_is)
      (case b9 => k_is)
      (case b10 => k_is)
      (case b11 => k_is)
      (case b12 => k_is)
      (case b13 => k_is)
    case zA =>
      refine' ⟨?d0, ?d1, ?d2, ?d3, ?d4, ?d5, ?d6, ?d7, ?d8, ?d9, ?d10, ?d11, ?d12, ?d13, ?d14, ?d15, ?d16, ?d17, ?d18, ?d19, ?d20, ?d21, ?d22, ?d23, ?d24, ?d25, ?d26, ?d27⟩
      case d0 =>
        refine' RFW.here_of KX G ?xa ?xl ?xc ?xk (fun _ _ _ _ _ _ us hl => match us, hl with | [_], _ => rfl)
        (case xa => k_is); (case xl => k_is); (case xc => k_is); (case xk => k_is)
      case d1 =>
        refine' RFW.here_of KX G ?xa ?xl ?xc ?xk (fun _ _ _ _ _ _ us hl => match us, hl with | [_], _ => rfl)
        (case xa => k_is); (case xl => k_is); (case xc => k_is); (case xk => k_is)
      case d2 =>
        refine' RFW.here_of KX G ?xa ?xl ?xc ?xk (fun _ _ _ _ _ _ us hl => match us, hl with | [_], _ => rfl)
        (case xa => k_is); (case xl => k_is); (case xc => k_is); (case xk => k_is)
      case d3 =>
        refine' RFW.here_of KX G ?xa ?xl ?xc ?xk (fun _ _ _ _ _ _ us hl => match us, hl with | [_, _], _ => rfl)
        (case xa => k_is); (case xl => k_is); (case xc => k_is); (case xk => k_is)
      case d4 =>
        refine' RFW.here_of KX G ?xa ?xl ?xc ?xk (fun _ _ _ _ _ _ us hl => match us, hl with | [_, _, _], _ => rfl)
        (case xa => k_is); (case xl => k_is); (case xc => k_is); (case xk => k_is)
      case d5 =>
        refine' RFW.here_of KX G ?xa ?xl ?xc ?xk (fun _ _ _ _ _ _ us hl => match us, hl with | [_, _, _, _], _ => rfl)
        (case xa => k_is); (case xl => k_is); (case xc => k_is); (case xk => k_is)
      case d6 =>
        refine' RFW.here_of KX G ?xa ?xl ?xc ?xk (fun _ _ _ _ _ _ us hl => match us, hl with | [_, _, _, _], _ => rfl)
        (case xa => k_is); (case xl => k_is); (case xc => k_is); (case xk => k_is)
      case d7 =>
        refine' RFW.here_of KX G ?xa ?xl ?xc ?xk (fun _ _ _ _ _ _ us hl => match us, hl with | [_, _], _ => rfl)
        (case xa => k_is); (case xl => k_is); (case xc => k_is); (case xk => k_is)
      case d8 =>
        refine' RFW.here_of KX G ?xa ?xl ?xc ?xk (fun _ _ _ _ _ _ us hl => match us, hl with | [_, _, _], _ => rfl)
        (case xa => k_is); (case xl => k_is); (case xc => k_is); (case xk => k_is)
      case d9 =>
        refine' RFW.here_of KX G ?xa ?xl ?xc ?xk (fun _ _ _ _ _ _ us hl => match us, hl with | [_, _], _ => rfl)
        (case xa => k_is); (case xl => k_is); (case xc => k_is); (case xk => k_is)
      case d10 =>
        refine' RFW.here_of KX G ?xa ?xl ?xc ?xk (fun _ _ _ _ _ _ us hl => match us, hl with | [_, _], _ => rfl)
        (case xa => k_is); (case xl => k_is); (case xc => k_is); (case xk => k_is)
      case d11 =>
        refine' RFW.here_of KX G ?xa ?xl ?xc ?xk (fun _ _ _ _ _ _ us hl => match us, hl with | [_, _], _ => rfl)
        (case xa => k_is); (case xl => k_is); (case xc => k_is); (case xk => k_is)
      case d12 =>
        refine' RFW.here_of KX G ?xa ?xl ?xc ?xk (fun _ _ _ _ _ _ us hl => match us, hl with | [_, _], _ => rfl)
        (case xa => k_is); (case xl => k_is); (case xc => k_is); (case xk => k_is)
      case d13 =>
        refine' RFW.here_of KX G ?xa ?xl ?xc ?xk (fun _ _ _ _ _ _ us hl => match us, hl with | [_, _], _ => rfl)
        (case xa => k_is); (case xl => k_is); (case xc => k_is); (case xk => k_is)
      case d14 =>
        refine' RFW.here_of KX G ?xa ?xl ?xc ?xk (fun _ _ _ _ _ _ us hl => match us, hl with | [_, _], _ => rfl)
        (case xa => k_is); (case xl => k_is); (case xc => k_is); (case xk => k_is)
      case d15 =>
        refine' RFW.here_of KX G ?xa ?xl ?xc ?xk (fun _ _ _ _ _ _ us hl => match us, hl with | [_, _], _ => rfl)
        (case xa => k_is); (case xl => k_is); (case xc => k_is); (case xk => k_is)
      case d16 =>
        refine' RFW.here_of KX G ?xa ?xl ?xc ?xk (fun _ _ _ _ _ _ us hl => match us, hl with | [_, _], _ => rfl)
        (case xa => k_is); (case xl => k_is); (case xc => k_is); (case xk => k_is)
      case d17 =>
        refine' RFW.here_of KX G ?xa ?xl ?xc ?xk (fun _ _ _ _ _ _ us hl => match us, hl with | [_, _], _ => rfl)
        (case xa => k_is); (case xl => k_is); (case xc => k_is); (case xk => k_is)
      case d18 =>
        refine' RFW.here_of KX G ?xa ?xl ?xc ?xk (fun _ _ _ _ _ _ us hl => match us, hl with | [_, _], _ => rfl)
        (case xa => k_is); (case xl => k_is); (case xc => k_is); (case xk => k_is)
      case d19 =>
        refine' RFW.here_of KX G ?xa ?xl ?xc ?xk (fun _ _ _ _ _ _ us hl => match us, hl with | [_, _], _ => rfl)
        (case xa => k_is); (case xl => k_is); (case xc => k_is); (case xk => k_is)
      case d20 =>
        refine' RFW.here_of KX G ?xa ?xl ?xc ?xk (fun _ _ _ _ _ _ us hl => match us, hl with | [_, _, _, _], _ => rfl)
        (case xa => k_is); (case xl => k_is); (case xc => k_is); (case xk => k_is)
      case d21 =>
        refine' RFW.here_of KX G ?xa ?xl ?xc ?xk (fun _ _ _ _ _ _ us hl => match us, hl with | [_], _ => rfl)
        (case xa => k_is); (case xl => k_is); (case xc => k_is); (case xk => k_is)
      case d22 =>
        refine' RFW.here_of KX G ?xa ?xl ?xc ?xk (fun _ _ _ _ _ _ us hl => match us, hl with | [_], _ => rfl)
        (case xa => k_is); (case xl => k_is); (case xc => k_is); (case xk => k_is)
      case d23 =>
        refine' RFW.here_of KX G ?xa ?xl ?xc ?xk (fun _ _ _ _ _ _ us hl => match us, hl with | [_], _ => rfl)
        (case xa => k_is); (case xl => k_is); (case xc => k_is); (case xk => k_is)
      case d24 =>
        refine' RFW.here_of KX G ?xa ?xl ?xc ?xk (fun _ _ _ _ _ _ us hl => match us, hl with | [_], _ => rfl)
        (case xa => k_is); (case xl => k_is); (case xc => k_is); (case xk => k_is)
      case d25 =>
        refine' RFW.here_of KX G ?xa ?xl ?xc ?xk (fun _ _ _ _ _ _ us hl => match us, hl with | [_, _, _], _ => rfl)
        (case xa => k_is); (case xl => k_is); (case xc => k_is); (case xk => k_is)
      case d26 =>
        refine' RFW.here_of KX G ?xa ?xl ?xc ?xk (fun _ _ _ _ _ _ us hl => match us, hl with | [_, _, _], _ => rfl)
        (case xa => k_is); (case xl => k_is); (case xc => k_is); (case xk => k_is)
      case d27 =>
        refine' RFW.here_of KX G ?xa ?xl ?xc ?xk (fun _ _ _ _ _ _ us hl => match us, hl with | [_], _ => rfl)
        (case xa => k_is); (case xl => k_is); (case xc => k_is); (case xk => k_is)
    case zW =>
      refine' ⟨_, ⟨⟨?pg, ?hd, ?po, ?sa⟩, ?n0, ?n1, ?n2⟩, RFW.herei_of KX G ?ac ?mk ?kc ?a0 ?i0 ?l0 ?c0 ?k0 (fun _ _ _ _ _ _ us hl => match us, hl with | [_, _, _, _], _ => rfl), RFW.herem_of ?a1 ?i1 ?l1 ?c1 ?k1 (fun _ _ _ _ _ _ us hl => match us, hl with | [_, _, _, _], _ => rfl), RFW.herem_of ?a2 ?i2 ?l2 ?c2 ?k2 (fun _ _ _ _ _ _ us hl => match us, hl with | [_, _], _ => rfl), RFW.herem_of ?a3 ?i3 ?l3 ?c3 ?k3 (fun _ _ _ _ _ _ us hl => match us, hl with | [_, _], _ => rfl), RFW.herem_of ?a4 ?i4 ?l4 ?c4 ?k4 (fun _ _ _ _ _ _ us hl => match us, hl with | [_, _, _], _ => rfl)⟩
      (case ac => k_is); (case pg => k_is); (case hd => k_is); (case po => k_is); (case sa => k_is); (case mk => k_is); (case kc => k_is)
      (case n0 => show PySem.W.findIn _ _ _ = some none; k_is); (case n1 => show PySem.W.findIn _ _ _ = some none; k_is); (case n2 => show PySem.W.findIn _ _ _ = some none; k_is)
      (case a0 => k_is); (case i0 => k_is); (case l0 => k_is); (case c0 => k_is); (case k0 => k_is)
      (case a1 => k_is); (case i1 => k_is); (case l1 => k_is); (case c1 => k_is); (case k1 => k_is)
      (case a2 => k_is); (case i2 => k_is); (case l2 => k_is); (case c2 => k_is); (case k2 => k_is)
      (case a3 => k_is); (case i3 => k_is); (case l3 => k_is); (case c3 => k_is); (case k3 => k_is)
      (case a4 => k_is); (case i4 => k_is); (case l4 => k_is); (case c4 => k_is); (case k4 => k_is)
    case zR =>
      refine' ⟨_, ⟨⟨?pg, ?hd, ?po, ?sa⟩, ?n0, ?n1, ?n2, ?n3, ?n4, ?n5⟩, RFW.herei_of KX G ?ac ?mk ?kc ?a0 ?i0 ?l0 ?c0 ?k0 (fun _ _ _ _ _ _ us hl => match us, hl with | [_, _, _, _, _], _ => rfl), RFW.herem_of ?a1 ?i1 ?l1 ?c1 ?k1 (fun _ _ _ _ _ _ us hl => match us, hl with | [_, _], _ => rfl), RFW.herem_of ?a2 ?i2 ?l2 ?c2 ?k2 (fun _ _ _ _ _ _ us hl => match us, hl with | [_, _], _ => rfl), RFW.herem_of ?a3 ?i3 ?l3 ?c3 ?k3 (fun _ _ _ _ _ _ us hl => match us, hl with | [_, _], _ => rfl), RFW.herem_of ?a4 ?i4 ?l4 ?c4 ?k4 (fun _ _ _ _ _ _ us hl => match us, hl with | [_, _], _ => rfl)⟩
      (case ac => k_is); (case pg => k_is); (case hd => k_is); (case po => k_is); (case sa => k_is); (case mk => k_is); (case kc => k_is)
      (case n0 => show PySem.W.findIn _ _ _ = some none; k_is); (case n1 => show PySem.W.findIn _ _ _ = some none; k_is); (case n2 => show PySem.W.findIn _ _ _ = some none; k_is); (case n3 => show PySem.W.findIn _ _ _ = some none; k_is); (case n4 => show PySem.W.findIn _ _ _ = some none; k_is); (case n5 => show PySem.W.findIn _ _ _ = some none; k_is)
      (case a0 => k_is); (case i0 => k_is); (case l0 => k_is); (case c0 => k_is); (case k0 => k_is)
      (case a1 => k_is); (case i1 => k_is); (case l1 => k_is); (case c1 => k_is); (case k1 => k_is)
      (case a2 => k_is); (case i2 => k_is); (case l2 => k_is); (case c2 => k_is); (case k2 => k_is)
      (case a3 => k_is); (case i3 => k_is); (case l3 => k_is); (case c3 => k_is); (case k3 => k_is)
      (case a4 => k_is); (case i4 => k_is); (case l4 => k_is); (case c4 => k_is); (case k4 => k_is)
    case zS =>
      refine' ⟨_, ⟨⟨?pg, ?hd, ?po, ?sa⟩, ?n0, ?n1, ?n2, ?n3⟩, RFW.herei_of KX G ?ac ?mk ?kc ?a0 ?i0 ?l0 ?c0 ?k0 (fun _ _ _ _ _ _ us hl => match us, hl with | [_, _, _, _, _], _ => rfl), RFW.herem_of ?a1 ?i1 ?l1 ?c1 ?k1 (fun _ _ _ _ _ _ us hl => match us, hl with | [_, _, _], _ => rfl), RFW.herem_of ?a2 ?i2 ?l2 ?c2 ?k2 (fun _ _ _ _ _ _ us hl => match us, hl with | [_, _, _, _], _ => rfl), RFW.herem_of ?a3 ?i3 ?l3 ?c3 ?k3 (fun _ _ _ _ _ _ us hl => match us, hl with | [_, _], _ => rfl), RFW.herem_of ?a4 ?i4 ?l4 ?c4 ?k4 (fun _ _ _ _ _ _ us hl => match us, hl with | [_, _], _ => rfl)⟩
      (case ac => k_is); (case pg => k_is); (case hd => k_is); (case po => k_is); (case sa => k_is); (case mk => k_is); (case kc => k_is)
      (case n0 => show PySem.W.findIn _ _ _ = some none; k_is); (case n1 => show PySem.W.findIn _ _ _ = some none; k_is); (case n2 => show PySem.W.findIn _ _ _ = some none; k_is); (case n3 => show PySem.W.findIn _ _ _ = some none; k_is)
      (case a0 => k_is); (case i0 => k_is); (case l0 => k_is); (case c0 => k_is); (case k0 => k_is)
      (case a1 => k_is); (case i1 => k_is); (case l1 => k_is); (case c1 => k_is); (case k1 => k_is)
      (case a2 => k_is); (case i2 => k_is); (case l2 => k_is); (case c2 => k_is); (case k2 => k_is)
      (case a3 => k_is); (case i3 => k_is); (case l3 => k_is); (case c3 => k_is); (case k3 => k_is)
      (case a4 => k_is); (case i4 => k_is); (case l4 => k_is); (case c4 => k_is); (case k4 => k_is)
