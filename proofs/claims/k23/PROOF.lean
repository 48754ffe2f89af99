import PyProof.Rows.All
import Wide.All
import OpenK.AllK
import Wide.FinOn
import HandS.ForMost
import HandS.Exc
import HandS.TryOnly
import HandS.ExcOwn
import HandS.WordsExc
import HandS.ExcInit
import HandS.Nested
import HandS.NestedK
import HandS.Strs
import HandS.TupSets
import HandS.Conv
import HandS.Flow
import HandS.Wide
import KE.KDictKeyed
import KE.KDictDisplayH
import HandS.SetFor
import HandS.ExcInitHot
import HandS.ExcField
import HandS.Defaults
import KE.GoesCell
import KE.GoesMore
import HandS.RaiseFrom
import HandS.SuiteRaise
import PyProof.ListStr
import KE.KDictPairs
import HandS.Walk
import HandS.Replace
import PyProof.StrLawsIn
import PyProof.Rows.StrFirst
import HandS.Deep
import HandS.DeepEq
import HandS.TupAny
import HandS.IsInst
import Lean
import HandS.Ends
import HandS.More
import HandS.Head0
import HandS.Head1
import HandS.Head2
import HandS.HeadEnd
import HandS.HeadHook1
import HandS.HeadHook2
import HandS.HeadHook3
import HandS.HeadHook4
import HandS.HeadWalk
import HandS.HeadNt
import PySem.Challenge.RW_calmword_k23_whole_machines_tell_the_sam
set_option linter.all false
/-! Plain mathematics, part 1: rooms as they come up. No program in sight. -/
namespace Kw
section
variable {α β : Type} [DecidableEq α] [DecidableEq β]

/-- an item is put behind a list if it isn't in it -/
def push (rs : List α) (t : α) : List α := if t ∈ rs then rs else rs ++ [t]
def pushAll (rs ts : List α) : List α := ts.foldl push rs
/-- each item once, as they come -/
def once (l : List α) : List α := pushAll [] l

theorem push_in {rs : List α} {t : α} (h : t ∈ rs) : push rs t = rs := if_pos h
theorem push_out {rs : List α} {t : α} (h : ¬ t ∈ rs) : push rs t = rs ++ [t] := if_neg h
theorem mem_push {rs : List α} {t x : α} : x ∈ push rs t ↔ x ∈ rs ∨ x = t := by
  unfold push
  split <;> grind
theorem push_nodup {rs : List α} {t : α} (h : rs.Nodup) : (push rs t).Nodup := by
  unfold push
  split <;> grind
theorem push_pre {rs : List α} {t : α} : rs <+: push rs t := by
  unfold push
  split
  · exact List.prefix_rfl
  · exact List.prefix_append _ _
theorem pushAll_nil {rs : List α} : pushAll rs [] = rs := rfl
theorem pushAll_cons {rs ts : List α} {t : α} : pushAll rs (t :: ts) = pushAll (push rs t) ts := rfl
theorem pushAll_app {rs ts us : List α} : pushAll rs (ts ++ us) = pushAll (pushAll rs ts) us := by
  unfold pushAll
  rw [List.foldl_append]
theorem pushAll_snoc {rs ts : List α} {t : α} : pushAll rs (ts ++ [t]) = push (pushAll rs ts) t := by
  rw [pushAll_app] <;> rfl
theorem mem_pushAll {x : α} : ∀ {ts rs : List α}, x ∈ pushAll rs ts ↔ x ∈ rs ∨ x ∈ ts
  | [], rs => by simp [pushAll_nil]
  | t :: ts, rs => by
    rw [pushAll_cons, mem_pushAll (ts := ts), mem_push]
    grind
theorem pushAll_nodup : ∀ {ts rs : List α}, rs.Nodup → (pushAll rs ts).Nodup
  | [], _, h => h
  | t :: ts, rs, h => pushAll_nodup (ts := ts) (push_nodup h)
theorem pushAll_pre : ∀ {ts rs : List α}, rs <+: pushAll rs ts
  | [], _ => List.prefix_rfl
  | t :: ts, rs => push_pre.trans (pushAll_pre (ts := ts))
theorem pushAll_in : ∀ {ts rs : List α}, (∀ t ∈ ts, t ∈ rs) → pushAll rs ts = rs
  | [], _, _ => rfl
  | t :: ts, rs, h => by
    rw [pushAll_cons, push_in (h t List.mem_cons_self)]
    exact pushAll_in fun u hu => h u (List.mem_cons_of_mem _ hu)
theorem mem_once {x : α} {l : List α} : x ∈ once l ↔ x ∈ l := by
  unfold once
  rw [mem_pushAll]
  simp
theorem once_nodup {l : List α} : (once l).Nodup := pushAll_nodup List.nodup_nil
theorem once_app {l m : List α} : once (l ++ m) = pushAll (once l) m := pushAll_app
theorem once_snoc {l : List α} {x : α} : once (l ++ [x]) = push (once l) x := pushAll_snoc
theorem pushAll_disj : ∀ {ts rs : List α}, (rs ++ ts).Nodup → pushAll rs ts = rs ++ ts
  | [], rs, _ => by simp [pushAll_nil]
  | t :: ts, rs, h => by
    have h1 : ¬ t ∈ rs := by grind
    rw [pushAll_cons, push_out h1, pushAll_disj (by grind)]
    simp
theorem once_of_nodup {l : List α} (h : l.Nodup) : once l = l := by
  unfold once
  rw [pushAll_disj (by simpa using h)]
  rfl
theorem once_once {l : List α} : once (once l) = once l := once_of_nodup once_nodup
theorem once_length_le (l : List α) : (once l).length ≤ l.length := by
  unfold once
  suffices h : ∀ (ts rs : List α), (pushAll rs ts).length ≤ rs.length + ts.length by simpa using h l []
  intro ts
  induction ts with
  | nil => intro rs; simp [pushAll_nil]
  | cons t ts ih =>
    intro rs
    rw [pushAll_cons]
    have h1 := ih (push rs t)
    have h2 : (push rs t).length ≤ rs.length + 1 := by
      unfold push
      split <;> simp
    rw [List.length_cons]
    omega
/-- what is told of images of a list that is told once -/
theorem once_map_push (f : α → β) {l : List α} {t : α} : once ((push l t).map f) = push (once (l.map f)) (f t) := by
  by_cases h : t ∈ l
  · rw [push_in h, push_in (mem_once.mpr (List.mem_map_of_mem h))]
  · rw [push_out h, List.map_append, List.map_cons, List.map_nil, once_snoc]
theorem once_map_pushAll (f : α → β) : ∀ {ts l : List α}, once ((pushAll l ts).map f) = pushAll (once (l.map f)) (ts.map f)
  | [], _ => rfl
  | t :: ts, l => by
    rw [pushAll_cons, once_map_pushAll f (ts := ts), once_map_push, List.map_cons, pushAll_cons]
theorem push_map {f : α → β} {l : List α} {t : α} (h : ∀ x ∈ l, f x = f t → x = t) : (push l t).map f = push (l.map f) (f t) := by
  by_cases e : t ∈ l
  · rw [push_in e, push_in (List.mem_map_of_mem e)]
  · have e2 : ¬ f t ∈ l.map f := by
      intro q
      obtain ⟨x, hx, ex⟩ := List.mem_map.mp q
      exact e (h x hx ex ▸ hx)
    rw [push_out e, push_out e2, List.map_append]
    rfl
theorem pushAll_map {f : α → β} (h : ∀ x y, f x = f y → x = y) : ∀ {ts l : List α}, (pushAll l ts).map f = pushAll (l.map f) (ts.map f)
  | [], _ => rfl
  | t :: ts, l => by
    rw [pushAll_cons, pushAll_map h (ts := ts), push_map fun x _ e => h x t e, List.map_cons, pushAll_cons]

/-! ### the rooms that come up, step by step -/
section
variable (succ : α → List α) (a : α)
def it : Nat → List α
  | 0 => [a]
  | n + 1 => match (it n)[n]? with
    | none => it n
    | some r => pushAll (it n) (succ r)
end
section
variable {succ : α → List α} {a : α}
theorem it_zero : it succ a 0 = [a] := rfl
theorem it_some {n : Nat} {r : α} (h : (it succ a n)[n]? = some r) : it succ a (n + 1) = pushAll (it succ a n) (succ r) := by
  rw [it, h]
theorem it_none {n : Nat} (h : (it succ a n)[n]? = none) : it succ a (n + 1) = it succ a n := by
  rw [it, h]
theorem it_nodup : ∀ n, (it succ a n).Nodup
  | 0 => by simp [it]
  | n + 1 => by
    cases h : (it succ a n)[n]? with
    | none => rw [it_none h]; exact it_nodup n
    | some r => rw [it_some h]; exact pushAll_nodup (it_nodup n)
theorem it_pre1 (n : Nat) : it succ a n <+: it succ a (n + 1) := by
  cases h : (it succ a n)[n]? with
  | none => rw [it_none h]; exact List.prefix_rfl
  | some r => rw [it_some h]; exact pushAll_pre
theorem it_pre {m n : Nat} (h : m ≤ n) : it succ a m <+: it succ a n := by
  induction n with
  | zero =>
    obtain rfl : m = 0 := by omega
    exact List.prefix_rfl
  | succ n ih =>
    by_cases e : m = n + 1
    · rw [e]; exact List.prefix_rfl
    · exact (ih (by omega)).trans (it_pre1 n)
theorem it_len_mono {m n : Nat} (h : m ≤ n) : (it succ a m).length ≤ (it succ a n).length := (it_pre h).length_le
theorem it_pos (n : Nat) : 0 < (it succ a n).length := Nat.lt_of_lt_of_le (by simp [it]) (it_len_mono (Nat.zero_le n))
theorem it_head (n : Nat) : (it succ a n)[0]? = some a := by
  obtain ⟨t, ht⟩ := it_pre (succ := succ) (a := a) (Nat.zero_le n)
  rw [← ht, it_zero]
  rfl
theorem it_first (n : Nat) : a ∈ it succ a n := List.mem_of_getElem? (it_head n)
theorem it_at {m n i : Nat} {r : α} (h : m ≤ n) (e : (it succ a m)[i]? = some r) : (it succ a n)[i]? = some r := by
  obtain ⟨t, ht⟩ := it_pre (succ := succ) (a := a) h
  rw [← ht, List.getElem?_append_left (List.getElem?_eq_some_iff.mp e).1]
  exact e
/-- once all have been looked at, nothing comes up any more -/
theorem it_stop {n : Nat} (h : (it succ a n).length ≤ n) : ∀ {m}, n ≤ m → it succ a m = it succ a n := by
  intro m hm
  induction m with
  | zero =>
    obtain rfl : n = 0 := by omega
    rfl
  | succ m ih =>
    by_cases e : n = m + 1
    · rw [e]
    · have e1 := ih (by omega)
      have e2 : (it succ a m)[m]? = none := by
        rw [e1]
        exact List.getElem?_eq_none (by omega)
      rw [it_none e2, e1]
/-- what was looked at leads to what has come up -/
theorem it_done {n i : Nat} {r : α} (hi : i < n) (e : (it succ a n)[i]? = some r) {t : α} (ht : t ∈ succ r) : t ∈ it succ a n := by
  by_cases hs : i < (it succ a i).length
  · have e1 : (it succ a i)[i]? = some r := by
      rw [List.getElem?_eq_getElem hs]
      have := it_at (succ := succ) (a := a) (Nat.le_of_lt hi) (List.getElem?_eq_getElem hs)
      rw [e] at this
      exact this.symm
    have e2 : t ∈ it succ a (i + 1) := by
      rw [it_some e1, mem_pushAll]
      exact .inr ht
    exact (it_pre hi).subset e2
  · have := it_stop (succ := succ) (a := a) (n := i) (by omega) (Nat.le_of_lt hi)
    rw [this, List.getElem?_eq_none (by omega)] at e
    cases e
theorem it_closed {n : Nat} (h : (it succ a n).length ≤ n) {r t : α} (hr : r ∈ it succ a n) (ht : t ∈ succ r) : t ∈ it succ a n := by
  obtain ⟨i, hi⟩ := List.mem_iff_getElem?.mp hr
  exact it_done (Nat.lt_of_lt_of_le (List.getElem?_eq_some_iff.mp hi).1 h) hi ht
/-- what holds of the first and is led on holds of all -/
theorem it_all {P : α → Prop} (h0 : P a) (h1 : ∀ r t, P r → t ∈ succ r → P t) : ∀ n, ∀ r ∈ it succ a n, P r
  | 0, r, h => by
    obtain rfl : r = a := by simpa [it] using h
    exact h0
  | n + 1, r, h => by
    cases e : (it succ a n)[n]? with
    | none =>
      rw [it_none e] at h
      exact it_all h0 h1 n r h
    | some q =>
      rw [it_some e, mem_pushAll] at h
      rcases h with h | h
      · exact it_all h0 h1 n r h
      · exact h1 q r (it_all h0 h1 n q (List.mem_of_getElem? e)) h
/-- a list without doubles, all of whose items are below b, is no longer than b -/
theorem nodup_lt_length : ∀ {b : Nat} {l : List Nat}, l.Nodup → (∀ x ∈ l, x < b) → l.length ≤ b
  | 0, l, _, h => by
    cases l with
    | nil => simp
    | cons x l => exact absurd (h x List.mem_cons_self) (by omega)
  | b + 1, l, hn, h => by
    have h1 := nodup_lt_length (b := b) (l := l.erase b) (hn.erase b) fun x hx => by
      have h2 := h x (List.mem_of_mem_erase hx)
      have h3 : x ≠ b := by
        intro e
        rw [e] at hx
        exact (hn.mem_erase_iff.mp hx).1 rfl
      omega
    have h4 : l.length ≤ (l.erase b).length + 1 := by
      rw [List.length_erase]
      split <;> omega
    omega
/-- .. of any items, told apart by numbers below b -/
theorem nodup_map_length {l : List α} (hn : l.Nodup) {b : Nat} (f : α → Nat) (hf : ∀ x ∈ l, f x < b) (hi : ∀ x ∈ l, ∀ y ∈ l, f x = f y → x = y) : l.length ≤ b := by
  have h1 : (l.map f).Nodup := by
    rw [List.nodup_iff_pairwise_ne, List.pairwise_map]
    refine List.Pairwise.imp_of_mem ?_ hn
    intro x y hx hy hne e
    exact hne (hi x hx y hy e)
  have h2 := nodup_lt_length h1 (b := b) fun x hx => by
    obtain ⟨y, hy, rfl⟩ := List.mem_map.mp hx
    exact hf y hy
  simpa using h2
end

/-! ### two graphs of which the one is an image of the other -/
theorem it_map {succ : α → List α} {succ' : β → List β} {a : α} {f : α → β} (hi : ∀ x y, f x = f y → x = y) (h : ∀ r, (succ r).map f = succ' (f r)) : ∀ n, (it succ a n).map f = it succ' (f a) n
  | 0 => rfl
  | n + 1 => by
    have ih := it_map (a := a) hi h n
    cases e : (it succ a n)[n]? with
    | none =>
      have e2 : (it succ' (f a) n)[n]? = none := by rw [← ih, List.getElem?_map, e]; rfl
      rw [it_none e, it_none e2, ih]
    | some r =>
      have e2 : (it succ' (f a) n)[n]? = some (f r) := by rw [← ih, List.getElem?_map, e]; rfl
      rw [it_some e, it_some e2, pushAll_map hi, ih, h]
/-- .. of those that come up alone -/
theorem it_mapOn {succ : α → List α} {succ' : β → List β} {a : α} {f : α → β} {P : α → Prop} (h0 : P a) (hP : ∀ r t, P r → t ∈ succ r → P t) (hi : ∀ x y, P x → P y → f x = f y → x = y) (h : ∀ r, P r → (succ r).map f = succ' (f r)) : ∀ n, (it succ a n).map f = it succ' (f a) n
  | 0 => rfl
  | n + 1 => by
    have ih := it_mapOn (a := a) h0 hP hi h n
    have hall := it_all (succ := succ) h0 hP n
    cases e : (it succ a n)[n]? with
    | none =>
      have e2 : (it succ' (f a) n)[n]? = none := by rw [← ih, List.getElem?_map, e]; rfl
      rw [it_none e, it_none e2, ih]
    | some r =>
      have e2 : (it succ' (f a) n)[n]? = some (f r) := by rw [← ih, List.getElem?_map, e]; rfl
      have hr := hall r (List.mem_of_getElem? e)
      rw [it_some e, it_some e2, ← ih, ← h r hr]
      have go : ∀ (ts l : List α), (∀ x ∈ l, P x) → (∀ t ∈ ts, P t) → (pushAll l ts).map f = pushAll (l.map f) (ts.map f) := by
        intro ts
        induction ts with
        | nil => intro l _ _; rfl
        | cons t ts iht =>
          intro l hl hts
          have ht := hts t List.mem_cons_self
          rw [pushAll_cons, iht _ (fun x hx => (mem_push.mp hx).elim (hl x) fun z => z ▸ ht) (fun u hu => hts u (List.mem_cons_of_mem _ hu)), push_map fun x hx q => hi x t (hl x hx) ht q, List.map_cons, pushAll_cons]
      exact go _ _ hall fun t ht => hP r t hr ht
/-- the image, once each: it comes up in the order of the first of each -/
theorem it_image {succ : α → List α} {succ' : β → List β} {a : α} {f : α → β} (h : ∀ n, ∀ r ∈ it succ a n, (succ r).map f = succ' (f r)) : ∀ n, n ≤ (it succ a n).length →
    ∃ j, it succ' (f a) j = once ((it succ a n).map f) ∧ (it succ' (f a) j).take j = once (((it succ a n).take n).map f) ∧ j = (once (((it succ a n).take n).map f)).length
  | 0, _ => ⟨0, rfl, rfl, rfl⟩
  | n + 1, hn => by
    have hn' : n < (it succ a n).length := by
      rcases Nat.lt_or_ge n (it succ a n).length with q | q
      · exact q
      · have := it_stop (succ := succ) (a := a) q (Nat.le_succ n)
        rw [this] at hn
        omega
    obtain ⟨j, h1, h2, h3⟩ := it_image h n (Nat.le_of_lt hn')
    have e : (it succ a n)[n]? = some (it succ a n)[n] := List.getElem?_eq_getElem hn'
    generalize hr : (it succ a n)[n] = r at e
    have eN : it succ a (n + 1) = pushAll (it succ a n) (succ r) := it_some e
    obtain ⟨more, hmore⟩ := pushAll_pre (rs := it succ a n) (ts := succ r)
    have eT : (it succ a (n + 1)).take (n + 1) = (it succ a n).take n ++ [r] := by
      rw [eN, ← hmore, List.take_append_of_le_length (by omega), List.take_add_one, e]
      rfl
    have eM : once ((it succ a (n + 1)).map f) = pushAll (once ((it succ a n).map f)) (succ' (f r)) := by
      rw [eN, once_map_pushAll, h n r (List.mem_of_getElem? e)]
    have eS : once (((it succ a (n + 1)).take (n + 1)).map f) = push (once (((it succ a n).take n).map f)) (f r) := by
      rw [eT, List.map_append, List.map_cons, List.map_nil, once_snoc]
    by_cases hk : f r ∈ once (((it succ a n).take n).map f)
    · refine ⟨j, ?_, ?_, ?_⟩
      · rw [eM, ← h1]
        symm
        refine pushAll_in fun t ht => ?_
        rw [← h2] at hk
        obtain ⟨i, hi⟩ := List.mem_iff_getElem?.mp hk
        have hij : i < j := by
          have := (List.getElem?_eq_some_iff.mp hi).1
          rw [List.length_take] at this
          omega
        rw [List.getElem?_take_of_lt hij] at hi
        exact it_done hij hi ht
      · rw [eS, push_in hk, h2]
      · rw [eS, push_in hk, h3]
    · -- a new one
      have eW : (it succ a n).map f = ((it succ a n).take n).map f ++ (f r :: ((it succ a n).drop (n + 1)).map f) := by
        have q : it succ a n = (it succ a n).take n ++ (r :: (it succ a n).drop (n + 1)) := by
          rw [← hr, List.getElem_cons_drop, List.take_append_drop]
        exact (congrArg (List.map f) q).trans (by rw [List.map_append, List.map_cons])
      have eJ : (it succ' (f a) j)[j]? = some (f r) := by
        rw [h1, eW, once_app, pushAll_cons, push_out hk]
        obtain ⟨m2, hm2⟩ := pushAll_pre (rs := once (((it succ a n).take n).map f) ++ [f r]) (ts := ((it succ a n).drop (n + 1)).map f)
        rw [← hm2, List.append_assoc, h3, List.getElem?_append_right (Nat.le_refl _), Nat.sub_self]
        rfl
      have eJ1 : it succ' (f a) (j + 1) = pushAll (it succ' (f a) j) (succ' (f r)) := it_some eJ
      refine ⟨j + 1, ?_, ?_, ?_⟩
      · rw [eJ1, eM, h1]
      · have hj : j < (it succ' (f a) j).length := (List.getElem?_eq_some_iff.mp eJ).1
        obtain ⟨m3, hm3⟩ := pushAll_pre (rs := it succ' (f a) j) (ts := succ' (f r))
        rw [eJ1, ← hm3, List.take_append_of_le_length (by omega), List.take_add_one, eJ, h2, eS, push_out hk]
        rfl
      · rw [eS, push_out hk, List.length_append, ← h3]
        rfl
end
end Kw
set_option linter.all false
/-! Plain mathematics, part 2: machines, the least of them. No program in sight. -/
namespace Kw
/-- a machine without its letters -/
structure Mc where
  mv : List (List Nat)
  ys : List Bool
  deriving DecidableEq
namespace Mc
variable (m : Mc)
def n : Nat := m.mv.length
def succ (r : Nat) : List Nat := m.mv.getD r []
def to (r k : Nat) : Nat := (m.succ r).getD k 0
def y (r : Nat) : Bool := m.ys.getD r false
def run (r : Nat) (w : List Nat) : Nat := w.foldl m.to r
def acc (w : List Nat) : Bool := m.y (m.run 0 w)
/-- rooms that no text parts -/
def eqv (r s : Nat) : Prop := ∀ w, m.y (m.run r w) = m.y (m.run s w)
structure Valid (k : Nat) : Prop where
  pos : 0 < m.mv.length
  len : m.ys.length = m.mv.length
  wide : ∀ row ∈ m.mv, row.length = k
  low : ∀ row ∈ m.mv, ∀ t ∈ row, t < m.mv.length
/-- the rooms that come up -/
def come : List Nat := it m.succ 0 m.mv.length
/-- numbers that tell the rooms that come up apart just where a text does -/
def Parts (c : Nat → Nat) : Prop := ∀ r ∈ m.come, ∀ s ∈ m.come, c r = c s ↔ m.eqv r s
/-- the first room of each class -/
def firstsOf (c : Nat → Nat) (R : List Nat) : List Nat := R.foldl (fun fs r => if c r ∈ fs.map c then fs else fs ++ [r]) []
def firsts (c : Nat → Nat) : List Nat := firstsOf c m.come
def num (c : Nat → Nat) (r : Nat) : Nat := ((m.firsts c).map c).idxOf (c r)
def leastC (c : Nat → Nat) : Mc := ⟨(m.firsts c).map fun r => (m.succ r).map (m.num c), (m.firsts c).map m.y⟩
/-- told again by the order in which its rooms come up -/
def renum : Mc := ⟨m.come.map fun r => (m.succ r).map fun t => m.come.idxOf t, m.come.map m.y⟩
/-- a least machine, numbered as its rooms come up -/
structure Canon (k : Nat) : Prop extends m.Valid k where
  apart : ∀ i < m.mv.length, ∀ j < m.mv.length, m.eqv i j → i = j
  order : m.come = List.range m.mv.length
end Mc

namespace Mc
variable {m : Mc} {k : Nat} {c : Nat → Nat}
theorem succ_lt (h : m.Valid k) {r t : Nat} (ht : t ∈ m.succ r) : t < m.mv.length := by
  unfold succ at ht
  by_cases hr : r < m.mv.length
  · rw [List.getD_eq_getElem?_getD, List.getElem?_eq_getElem hr] at ht
    exact h.low _ (List.getElem_mem hr) t ht
  · rw [List.getD_eq_getElem?_getD, List.getElem?_eq_none (by omega)] at ht
    simp at ht
theorem succ_len (h : m.Valid k) {r : Nat} (hr : r < m.mv.length) : (m.succ r).length = k := by
  unfold succ
  rw [List.getD_eq_getElem?_getD, List.getElem?_eq_getElem hr]
  exact h.wide _ (List.getElem_mem hr)
theorem come_lt (h : m.Valid k) : ∀ r ∈ m.come, r < m.mv.length := it_all (P := fun r => r < m.mv.length) h.pos (fun _ _ _ ht => succ_lt h ht) _
theorem come_nodup : m.come.Nodup := it_nodup _
theorem come_len (h : m.Valid k) : m.come.length ≤ m.mv.length := nodup_lt_length come_nodup (come_lt h)
theorem come_closed (h : m.Valid k) {r t : Nat} (hr : r ∈ m.come) (ht : t ∈ m.succ r) : t ∈ m.come := it_closed (come_len h) hr ht
theorem zero_come : 0 ∈ m.come := it_first _
theorem come_pos : 0 < m.come.length := it_pos _
theorem come_head : m.come[0]? = some 0 := it_head _
/-- .. however many steps are made -/
theorem come_any (h : m.Valid k) {b : Nat} (hb : (it m.succ 0 b).length ≤ b) : it m.succ 0 b = m.come := by
  rcases Nat.le_total b m.mv.length with q | q
  · exact (it_stop hb q).symm
  · exact it_stop (come_len h) q
theorem getD_mem {l : List Nat} {j d : Nat} (h : j < l.length) : l.getD j d ∈ l := by
  rw [List.getD_eq_getElem?_getD, List.getElem?_eq_getElem h]
  exact List.getElem_mem h
theorem getD_map0 {l : List Nat} {f : Nat → Nat} {j : Nat} (h : j < l.length) : (l.map f).getD j 0 = f (l.getD j 0) := by
  rw [List.getD_eq_getElem?_getD, List.getD_eq_getElem?_getD, List.getElem?_map, List.getElem?_eq_getElem h]
  rfl
theorem to_mem {r a : Nat} (h : a < (m.succ r).length) : m.to r a ∈ m.succ r := getD_mem h
theorem to_out {r a : Nat} (h : ¬ a < (m.succ r).length) : m.to r a = 0 := by
  unfold to
  rw [List.getD_eq_getElem?_getD, List.getElem?_eq_none (by omega)]
  rfl
theorem to_come (h : m.Valid k) {r : Nat} (hr : r ∈ m.come) (a : Nat) : m.to r a ∈ m.come := by
  by_cases q : a < (m.succ r).length
  · exact come_closed h hr (to_mem q)
  · rw [to_out q]; exact zero_come
theorem to_lt (h : m.Valid k) (r a : Nat) : m.to r a < m.mv.length := by
  by_cases q : a < (m.succ r).length
  · exact succ_lt h (to_mem q)
  · rw [to_out q]; exact h.pos
theorem run_nil {r : Nat} : m.run r [] = r := rfl
theorem run_cons {r a : Nat} {w : List Nat} : m.run r (a :: w) = m.run (m.to r a) w := rfl
theorem run_app {r : Nat} {u w : List Nat} : m.run r (u ++ w) = m.run (m.run r u) w := by
  unfold run
  rw [List.foldl_append]
theorem run_come (h : m.Valid k) : ∀ (w : List Nat) {r : Nat}, r ∈ m.come → m.run r w ∈ m.come
  | [], _, hr => hr
  | a :: w, r, hr => run_come h w (to_come h hr a)
theorem run_lt (h : m.Valid k) : ∀ (w : List Nat) {r : Nat}, r < m.mv.length → m.run r w < m.mv.length
  | [], _, hr => hr
  | a :: w, r, hr => run_lt h w (to_lt h r a)
theorem eqv_refl (r : Nat) : m.eqv r r := fun _ => rfl
theorem eqv_symm {r s : Nat} (h : m.eqv r s) : m.eqv s r := fun w => (h w).symm
theorem eqv_trans {r s t : Nat} (h : m.eqv r s) (q : m.eqv s t) : m.eqv r t := fun w => (h w).trans (q w)
theorem eqv_y {r s : Nat} (h : m.eqv r s) : m.y r = m.y s := h []
theorem eqv_to {r s : Nat} (h : m.eqv r s) (a : Nat) : m.eqv (m.to r a) (m.to s a) := fun w => h (a :: w)

/-! ### the firsts -/
theorem firstsOf_map (c : Nat → Nat) (R : List Nat) : (firstsOf c R).map c = once (R.map c) := by
  unfold firstsOf once
  suffices h : ∀ (R fs : List Nat), (R.foldl (fun fs r => if c r ∈ fs.map c then fs else fs ++ [r]) fs).map c = pushAll (fs.map c) (R.map c) by
    simpa using h R []
  intro R
  induction R with
  | nil => intro fs; rfl
  | cons r R ih =>
    intro fs
    rw [List.foldl_cons, ih, List.map_cons, pushAll_cons]
    congr 1
    unfold push
    split <;> simp_all
theorem firstsOf_sub (c : Nat → Nat) (R : List Nat) : ∀ r ∈ firstsOf c R, r ∈ R := by
  unfold firstsOf
  suffices h : ∀ (R fs S : List Nat), (∀ r ∈ fs, r ∈ S) → (∀ r ∈ R, r ∈ S) → ∀ r ∈ (R.foldl (fun fs r => if c r ∈ fs.map c then fs else fs ++ [r]) fs), r ∈ S by
    exact h R [] R (by simp) (fun r h => h)
  intro R
  induction R with
  | nil => intro fs S h _; exact h
  | cons r R ih =>
    intro fs S h1 h2
    rw [List.foldl_cons]
    refine ih _ S ?_ fun x hx => h2 x (List.mem_cons_of_mem _ hx)
    intro x hx
    split at hx
    · exact h1 x hx
    · rcases List.mem_append.mp hx with q | q
      · exact h1 x q
      · obtain rfl : x = r := by simpa using q
        exact h2 x List.mem_cons_self
theorem firstsOf_snoc (c : Nat → Nat) (R : List Nat) (r : Nat) : firstsOf c (R ++ [r]) = if c r ∈ (firstsOf c R).map c then firstsOf c R else firstsOf c R ++ [r] := by
  unfold firstsOf
  rw [List.foldl_append]
  rfl
/-- the firsts hang on what is told apart alone -/
theorem firstsOf_congr {c c' : Nat → Nat} {R : List Nat} (h : ∀ r ∈ R, ∀ s ∈ R, c r = c s ↔ c' r = c' s) : firstsOf c R = firstsOf c' R := by
  unfold firstsOf
  suffices g : ∀ (L fs : List Nat), (∀ r ∈ L, r ∈ R) → (∀ r ∈ fs, r ∈ R) → L.foldl (fun fs r => if c r ∈ fs.map c then fs else fs ++ [r]) fs = L.foldl (fun fs r => if c' r ∈ fs.map c' then fs else fs ++ [r]) fs by
    exact g R [] (fun _ h => h) (by simp)
  intro L
  induction L with
  | nil => intro fs _ _; rfl
  | cons r L ih =>
    intro fs h1 h2
    rw [List.foldl_cons, List.foldl_cons]
    have hr := h1 r List.mem_cons_self
    have e : (c r ∈ fs.map c) ↔ (c' r ∈ fs.map c') := by
      constructor
      · intro q
        obtain ⟨x, hx, ex⟩ := List.mem_map.mp q
        exact List.mem_map.mpr ⟨x, hx, (h x (h2 x hx) r hr).mp ex⟩
      · intro q
        obtain ⟨x, hx, ex⟩ := List.mem_map.mp q
        exact List.mem_map.mpr ⟨x, hx, (h x (h2 x hx) r hr).mpr ex⟩
    by_cases q : c r ∈ fs.map c
    · rw [if_pos q, if_pos (e.mp q)]
      exact ih fs (fun x hx => h1 x (List.mem_cons_of_mem _ hx)) h2
    · rw [if_neg q, if_neg fun z => q (e.mpr z)]
      refine ih _ (fun x hx => h1 x (List.mem_cons_of_mem _ hx)) fun x hx => ?_
      rcases List.mem_append.mp hx with z | z
      · exact h2 x z
      · obtain rfl : x = r := by simpa using z
        exact hr
theorem idxOf_congr {c c' : Nat → Nat} {r : Nat} : ∀ {fs : List Nat}, (∀ s ∈ fs, c s = c r ↔ c' s = c' r) → (fs.map c).idxOf (c r) = (fs.map c').idxOf (c' r)
  | [], _ => rfl
  | x :: fs, h => by
    have ih := idxOf_congr (fs := fs) fun s hs => h s (List.mem_cons_of_mem _ hs)
    have hx := h x List.mem_cons_self
    rw [List.map_cons, List.map_cons, List.idxOf_cons, List.idxOf_cons, ih]
    by_cases e : c x = c r
    · have e' := hx.mp e
      simp [e, e']
    · have e' : ¬ c' x = c' r := fun z => e (hx.mpr z)
      have q1 : (c x == c r) = false := by simpa using e
      have q2 : (c' x == c' r) = false := by simpa using e'
      rw [q1, q2]
theorem leastC_congr {c' : Nat → Nat} (hv : m.Valid k) (h : ∀ r ∈ m.come, ∀ s ∈ m.come, c r = c s ↔ c' r = c' s) : m.leastC c = m.leastC c' := by
  have e : m.firsts c = m.firsts c' := firstsOf_congr h
  unfold leastC
  rw [e]
  congr 1
  refine List.map_congr_left fun r hr => List.map_congr_left fun t ht => ?_
  have hr' : r ∈ m.come := firstsOf_sub _ _ r hr
  have ht' : t ∈ m.come := come_closed hv hr' ht
  unfold num
  rw [e]
  exact idxOf_congr fun s hs => h s (firstsOf_sub _ _ s hs) t ht'
theorem leastC_parts {c' : Nat → Nat} (hv : m.Valid k) (h : m.Parts c) (h' : m.Parts c') : m.leastC c = m.leastC c' :=
  leastC_congr hv fun r hr s hs => (h r hr s hs).trans (h' r hr s hs).symm
/-- classes that are there for each machine -/
noncomputable def cls (m : Mc) (r : Nat) : Nat := by
  classical exact m.come.findIdx fun s => decide (m.eqv s r)
theorem cls_parts (m : Mc) : m.Parts (cls m) := by
  classical
  intro r hr s hs
  have at_ : ∀ r ∈ m.come, ∃ q, m.come[cls m r]? = some q ∧ m.eqv q r := by
    intro r hr
    have ex : ∃ x ∈ m.come, decide (m.eqv x r) = true := ⟨r, hr, by simp [eqv_refl]⟩
    have h1 : m.come.findIdx (fun s => decide (m.eqv s r)) < m.come.length := List.findIdx_lt_length_of_exists ex
    have h2 := List.findIdx_getElem (p := fun s => decide (m.eqv s r)) (w := h1)
    refine ⟨_, ?_, of_decide_eq_true h2⟩
    unfold cls
    exact List.getElem?_eq_getElem h1
  constructor
  · intro e
    obtain ⟨q, hq, eq⟩ := at_ r hr
    obtain ⟨p, hp, ep⟩ := at_ s hs
    rw [e, hp] at hq
    cases hq
    exact eqv_trans (eqv_symm eq) ep
  · intro e
    unfold cls
    congr 1
    funext x
    exact decide_eq_decide.mpr ⟨fun z => eqv_trans z e, fun z => eqv_trans z (eqv_symm e)⟩
/-- the least machine -/
noncomputable def least (m : Mc) : Mc := m.leastC (cls m)
theorem least_of (hv : m.Valid k) (h : m.Parts c) : m.leastC c = m.least := leastC_parts hv h (cls_parts m)

/-! ### what the least machine is -/
section
variable (hv : m.Valid k) (hp : m.Parts c)
include hv
theorem fm : (m.firsts c).map c = once (m.come.map c) := firstsOf_map _ _
theorem class_in {r : Nat} (hr : r ∈ m.come) : c r ∈ (m.firsts c).map c := by
  rw [fm hv, mem_once]
  exact List.mem_map_of_mem hr
theorem num_lt {r : Nat} (hr : r ∈ m.come) : m.num c r < (m.firsts c).length := by
  have h := List.idxOf_lt_length_of_mem (class_in (c := c) hv hr)
  rw [List.length_map] at h
  exact h
theorem num_at {r : Nat} (hr : r ∈ m.come) : ∃ f, (m.firsts c)[m.num c r]? = some f ∧ f ∈ m.come ∧ c f = c r := by
  have h1 := num_lt (c := c) hv hr
  refine ⟨(m.firsts c)[m.num c r], List.getElem?_eq_getElem h1, firstsOf_sub _ _ _ (List.getElem_mem h1), ?_⟩
  have h2 := List.getElem_idxOf (List.idxOf_lt_length_of_mem (class_in (c := c) hv hr))
  rw [List.getElem_map] at h2
  exact h2
theorem num_first {i f : Nat} (h : (m.firsts c)[i]? = some f) : m.num c f = i := by
  have hn : ((m.firsts c).map c).Nodup := by
    rw [fm hv]
    exact once_nodup
  have hi := (List.getElem?_eq_some_iff.mp h).1
  have e : ((m.firsts c).map c)[i]'(by rw [List.length_map]; exact hi) = c f := by
    rw [List.getElem_map, (List.getElem?_eq_some_iff.mp h).2]
  unfold num
  rw [← e]
  exact hn.idxOf_getElem i _
include hp
theorem num_eq {r s : Nat} (hr : r ∈ m.come) (hs : s ∈ m.come) : m.num c r = m.num c s ↔ m.eqv r s := by
  rw [← hp r hr s hs]
  constructor
  · intro e
    obtain ⟨f, hf, _, ef⟩ := num_at (c := c) hv hr
    obtain ⟨g, hg, _, eg⟩ := num_at (c := c) hv hs
    rw [e, hg] at hf
    cases hf
    rw [← ef, eg]
  · intro e
    unfold num
    rw [e]
theorem least_succ {r : Nat} (hr : r ∈ m.come) : (m.leastC c).succ (m.num c r) = (m.succ r).map (m.num c) := by
  obtain ⟨f, hf, hfc, ef⟩ := num_at (c := c) hv hr
  have e1 : (m.leastC c).succ (m.num c r) = (m.succ f).map (m.num c) := by
    show ((m.firsts c).map fun r => (m.succ r).map (m.num c)).getD (m.num c r) [] = _
    rw [List.getD_eq_getElem?_getD, List.getElem?_map, hf]
    rfl
  rw [e1]
  have e2 : m.eqv f r := (hp f hfc r hr).mp ef
  have l1 := succ_len hv (come_lt hv f hfc)
  have l2 := succ_len hv (come_lt hv r hr)
  refine List.ext_getElem (by simp [l1, l2]) fun i h1 h2 => ?_
  rw [List.getElem_map, List.getElem_map]
  have hi1 : i < (m.succ f).length := by simpa using h1
  have hi2 : i < (m.succ r).length := by simpa using h2
  have t1 : m.to f i = (m.succ f)[i] := by unfold to; rw [List.getD_eq_getElem?_getD, List.getElem?_eq_getElem hi1]; rfl
  have t2 : m.to r i = (m.succ r)[i] := by unfold to; rw [List.getD_eq_getElem?_getD, List.getElem?_eq_getElem hi2]; rfl
  rw [← t1, ← t2]
  exact (num_eq hv hp (to_come hv hfc i) (to_come hv hr i)).mpr (eqv_to e2 i)
theorem least_to {r : Nat} (hr : r ∈ m.come) (a : Nat) (h0 : m.num c 0 = 0) : (m.leastC c).to (m.num c r) a = m.num c (m.to r a) := by
  show ((m.leastC c).succ (m.num c r)).getD a 0 = _
  rw [least_succ hv hp hr]
  by_cases q : a < (m.succ r).length
  · rw [getD_map0 q]; rfl
  · rw [to_out q, h0, List.getD_eq_getElem?_getD, List.getElem?_eq_none (by simpa using q)]
    rfl
theorem least_y {r : Nat} (hr : r ∈ m.come) : (m.leastC c).y (m.num c r) = m.y r := by
  obtain ⟨f, hf, hfc, ef⟩ := num_at (c := c) hv hr
  show ((m.firsts c).map m.y).getD (m.num c r) false = _
  rw [List.getD_eq_getElem?_getD, List.getElem?_map, hf]
  exact eqv_y ((hp f hfc r hr).mp ef)
omit hp in
theorem firsts_head : (m.firsts c)[0]? = some 0 := by
  have h := come_head (m := m)
  unfold firsts
  cases e : m.come with
  | nil => rw [e] at h; simp at h
  | cons x R =>
    rw [e] at h
    obtain rfl : x = 0 := by simpa using h
    unfold firstsOf
    rw [List.foldl_cons]
    show (R.foldl _ [0])[0]? = some 0
    suffices g : ∀ (L fs : List Nat), fs[0]? = some 0 → (L.foldl (fun fs r => if c r ∈ fs.map c then fs else fs ++ [r]) fs)[0]? = some 0 from g R [0] rfl
    intro L
    induction L with
    | nil => intro fs h; exact h
    | cons r L ih =>
      intro fs h
      rw [List.foldl_cons]
      refine ih _ ?_
      split
      · exact h
      · rw [List.getElem?_append_left (List.getElem?_eq_some_iff.mp h).1]
        exact h
omit hp in
theorem num_zero : m.num c 0 = 0 := num_first hv (firsts_head hv)
theorem least_run : ∀ (w : List Nat) {r : Nat}, r ∈ m.come → (m.leastC c).run (m.num c r) w = m.num c (m.run r w)
  | [], _, _ => rfl
  | a :: w, r, hr => by
    rw [run_cons, run_cons, least_to hv hp hr a (num_zero hv), least_run w (to_come hv hr a)]
theorem least_acc (w : List Nat) : (m.leastC c).acc w = m.acc w := by
  show (m.leastC c).y ((m.leastC c).run 0 w) = m.y (m.run 0 w)
  have e := least_run hv hp w (zero_come (m := m))
  rw [num_zero hv] at e
  rw [e, least_y hv hp (run_come hv w zero_come)]
omit hp in
theorem firsts_len_pos : 0 < (m.firsts c).length := (List.getElem?_eq_some_iff.mp (firsts_head (c := c) hv)).1
omit hp in
theorem least_n : (m.leastC c).mv.length = (m.firsts c).length := List.length_map _
omit hp in
theorem least_valid : (m.leastC c).Valid k where
  pos := by rw [least_n hv]; exact firsts_len_pos hv
  len := by rw [least_n hv]; exact List.length_map _
  wide := fun row h => by
    obtain ⟨r, hr, rfl⟩ := List.mem_map.mp h
    rw [List.length_map]
    exact succ_len hv (come_lt hv r (firstsOf_sub _ _ r hr))
  low := fun row h t ht => by
    obtain ⟨r, hr, rfl⟩ := List.mem_map.mp h
    obtain ⟨q, hq, rfl⟩ := List.mem_map.mp ht
    rw [least_n hv]
    exact num_lt hv (come_closed hv (firstsOf_sub _ _ r hr) hq)
/-- each room is one of those that came up -/
theorem room_of {i : Nat} (hi : i < (m.leastC c).mv.length) : ∃ f ∈ m.come, m.num c f = i := by
  rw [least_n hv] at hi
  exact ⟨(m.firsts c)[i], firstsOf_sub _ _ _ (List.getElem_mem hi), num_first hv (List.getElem?_eq_getElem hi)⟩
theorem least_apart {i j : Nat} (hi : i < (m.leastC c).mv.length) (hj : j < (m.leastC c).mv.length) (h : (m.leastC c).eqv i j) : i = j := by
  obtain ⟨f, hf, rfl⟩ := room_of hv hp hi
  obtain ⟨g, hg, rfl⟩ := room_of hv hp hj
  refine (num_eq hv hp hf hg).mpr fun w => ?_
  have e := h w
  rw [least_run hv hp w hf, least_run hv hp w hg, least_y hv hp (run_come hv w hf), least_y hv hp (run_come hv w hg)] at e
  exact e
omit hp in
/-- numbers of the firsts, once each, are told in order -/
theorem once_num : once (m.come.map (m.num c)) = List.range (m.firsts c).length := by
  have e1 : m.come.map (m.num c) = (m.come.map c).map fun x => ((m.firsts c).map c).idxOf x := by
    rw [List.map_map]
    rfl
  have e2 : once (m.come.map (m.num c)) = once ((once (m.come.map c)).map fun x => ((m.firsts c).map c).idxOf x) := by
    rw [e1]
    have := once_map_pushAll (fun x => ((m.firsts c).map c).idxOf x) (ts := m.come.map c) (l := [])
    unfold once at *
    rw [this] <;> rfl
  have hn : ((m.firsts c).map c).Nodup := by rw [fm hv]; exact once_nodup
  have e3 : (once (m.come.map c)).map (fun x => ((m.firsts c).map c).idxOf x) = List.range (m.firsts c).length := by
    rw [← fm (c := c) hv]
    refine List.ext_getElem (by simp) fun i h1 h2 => ?_
    rw [List.getElem_map, List.getElem_range]
    exact hn.idxOf_getElem i _
  rw [e2, e3, once_of_nodup List.nodup_range]
theorem least_order : (m.leastC c).come = List.range (m.leastC c).mv.length := by
  have hv' := least_valid (c := c) hv
  have img := it_image (succ := m.succ) (succ' := (m.leastC c).succ) (a := 0) (f := m.num c) (fun n r hr => ?_) m.come.length ?_
  · obtain ⟨j, h1, h2, h3⟩ := img
    have st : it m.succ 0 m.come.length = m.come := by
      have hs : ∀ b, b ≤ m.mv.length → (it m.succ 0 b).length ≤ b ∨ b < (it m.succ 0 b).length := fun b _ => by omega
      rcases hs m.come.length (come_len hv) with q | q
      · exact come_any hv q
      · have : (it m.succ 0 m.come.length).length ≤ m.come.length := it_len_mono (come_len hv)
        omega
    rw [st, List.take_length] at h3
    rw [st, once_num hv] at h1
    rw [once_num hv, List.length_range] at h3
    rw [num_zero hv] at h1
    have e : it (m.leastC c).succ 0 j = (m.leastC c).come := come_any hv' (by rw [h1, List.length_range]; omega)
    rw [← e, h1, least_n hv]
  · rw [least_succ hv hp (?_ : r ∈ m.come)]
    rcases Nat.le_total n m.mv.length with q | q
    · exact (it_pre q).subset hr
    · rw [it_stop (come_len hv) q] at hr
      exact hr
  · have : it m.succ 0 m.come.length = m.come := by
      rcases Nat.lt_or_ge m.come.length (it m.succ 0 m.come.length).length with q | q
      · have := it_len_mono (succ := m.succ) (a := 0) (come_len hv)
        unfold come at *
        omega
      · exact come_any hv q
    rw [this]
    exact Nat.le_refl _
theorem leastC_canon : (m.leastC c).Canon k := { least_valid hv with apart := fun i hi j hj h => least_apart hv hp hi hj h, order := least_order hv hp }
end
theorem least_canon (hv : m.Valid k) : m.least.Canon k := leastC_canon hv (cls_parts m)
theorem acc_least (hv : m.Valid k) (w : List Nat) : m.least.acc w = m.acc w := least_acc hv (cls_parts m) w

/-! ### a least machine is its own least one -/
section
variable (h : m.Canon k)
include h
theorem canon_range : (List.range m.mv.length).map m.succ = m.mv := by
  refine List.ext_getElem (by simp) fun i h1 h2 => ?_
  rw [List.getElem_map, List.getElem_range]
  unfold succ
  rw [List.getD_eq_getElem?_getD, List.getElem?_eq_getElem h2]
  rfl
theorem canon_ys : (List.range m.mv.length).map m.y = m.ys := by
  refine List.ext_getElem (by simp [h.len]) fun i h1 h2 => ?_
  rw [List.getElem_map, List.getElem_range]
  unfold y
  rw [List.getD_eq_getElem?_getD, List.getElem?_eq_getElem h2]
  rfl
theorem leastC_id (hp : m.Parts c) : m.leastC c = m := by
  have inj : ∀ r ∈ m.come, ∀ s ∈ m.come, c r = c s ↔ (fun x : Nat => x) r = (fun x : Nat => x) s := fun r hr s hs => by
    rw [hp r hr s hs]
    exact ⟨fun e => h.apart r (come_lt h.toValid r hr) s (come_lt h.toValid s hs) e, fun e => by
      have e : r = s := e
      rw [e]; exact eqv_refl _⟩
  rw [leastC_congr h.toValid inj]
  have ef : m.firsts (fun x => x) = List.range m.mv.length := by
    have e := firstsOf_map (fun x => x) m.come
    rw [List.map_id', List.map_id', once_of_nodup come_nodup] at e
    unfold firsts
    rw [e, h.order]
  have en : ∀ t, t < m.mv.length → m.num (fun x => x) t = t := fun t ht => by
    unfold num
    rw [ef, List.map_id']
    have hn : (List.range m.mv.length).Nodup := List.nodup_range
    have := hn.idxOf_getElem t (by simpa using ht)
    simpa using this
  unfold leastC
  rw [ef]
  have e1 : (List.range m.mv.length).map (fun r => (m.succ r).map (m.num fun x => x)) = m.mv := by
    refine Eq.trans (List.map_congr_left fun r hr => ?_) (canon_range h)
    have : (m.succ r).map (m.num fun x => x) = (m.succ r).map fun x => x := List.map_congr_left fun t ht => en t (succ_lt h.toValid ht)
    rw [this, List.map_id']
  rw [e1, canon_ys h]
theorem least_id : m.least = m := leastC_id h (cls_parts m)
theorem renum_id : m.renum = m := by
  unfold renum
  rw [h.order, canon_ys h]
  have e1 : (List.range m.mv.length).map (fun r => (m.succ r).map fun t => (List.range m.mv.length).idxOf t) = m.mv := by
    refine Eq.trans (List.map_congr_left fun r hr => ?_) (canon_range h)
    have : (m.succ r).map (fun t => (List.range m.mv.length).idxOf t) = (m.succ r).map fun x => x := List.map_congr_left fun t ht => by
      have hn : (List.range m.mv.length).Nodup := List.nodup_range
      have := hn.idxOf_getElem t (by simpa using succ_lt h.toValid ht)
      simpa using this
    rw [this, List.map_id']
  rw [e1]
end
end Mc
end Kw
set_option linter.all false
/-! Plain mathematics, part 3: classes parted again and again; machines told anew by another order; graphs of rooms. No program in sight. -/
namespace Kw
section
variable {α β : Type} [DecidableEq α] [DecidableEq β]
/-- how many unlike items -/
def card (l : List α) : Nat := (once l).length
theorem card_le (l : List α) : card l ≤ l.length := once_length_le l
theorem nodup_of_once {l : List α} (h : l.length ≤ card l) : l.Nodup := by
  unfold card once at h
  suffices g : ∀ (ts rs : List α), rs.Nodup → rs.length + ts.length ≤ (pushAll rs ts).length → (rs ++ ts).Nodup by
    have := g l [] List.nodup_nil (by simpa using h)
    simpa using this
  intro ts
  induction ts with
  | nil => intro rs h _; simpa using h
  | cons t ts ih =>
    intro rs hn h
    rw [pushAll_cons] at h
    have up : ∀ (us vs : List α), (pushAll us vs).length ≤ us.length + vs.length := by
      intro us vs
      induction vs generalizing us with
      | nil => simp [pushAll_nil]
      | cons v vs ih =>
        rw [pushAll_cons]
        have h1 := ih (push us v)
        have h2 : (push us v).length ≤ us.length + 1 := by
          unfold push
          split <;> simp
        rw [List.length_cons]
        omega
    have h2 := up (push rs t) ts
    rw [List.length_cons] at h
    by_cases e : t ∈ rs
    · rw [push_in e] at h2
      rw [push_in e] at h
      omega
    · rw [push_out e] at h
      have := ih (rs ++ [t]) (by grind) (by rw [List.length_append, List.length_singleton]; omega)
      simpa using this
theorem nodup_sub_length {l m : List α} (h : l.Nodup) (hs : ∀ x ∈ l, x ∈ m) : l.length ≤ m.length := by
  induction l generalizing m with
  | nil => simp
  | cons x l ih =>
    have hx := hs x List.mem_cons_self
    have h1 : l.length ≤ (m.erase x).length := ih (List.nodup_cons.mp h).2 fun y hy => by
      have hne : y ≠ x := fun e => (List.nodup_cons.mp h).1 (e ▸ hy)
      exact (List.mem_erase_of_ne hne).mpr (hs y (List.mem_cons_of_mem _ hy))
    rw [List.length_erase_of_mem hx] at h1
    have h2 : 0 < m.length := List.length_pos_of_mem hx
    rw [List.length_cons]
    omega
theorem card_same {l m : List α} (h : ∀ x, x ∈ l ↔ x ∈ m) : card l = card m :=
  Nat.le_antisymm (nodup_sub_length once_nodup fun x hx => mem_once.mpr ((h x).mp (mem_once.mp hx))) (nodup_sub_length once_nodup fun x hx => mem_once.mpr ((h x).mpr (mem_once.mp hx)))
end
open Mc
/-- finer numbers, not more of them: the same are told apart -/
theorem fine_same {c c0 : Nat → Nat} {R : List Nat} (hr : ∀ r ∈ R, ∀ s ∈ R, c r = c s → c0 r = c0 s) (hc : card (R.map c) ≤ card (R.map c0)) : ∀ r ∈ R, ∀ s ∈ R, c0 r = c0 s → c r = c s := by
  intro r hr' s hs' e
  have rep : ∀ r ∈ R, ∃ f ∈ firstsOf c R, c f = c r := fun r hr => by
    have h : c r ∈ (firstsOf c R).map c := by
      rw [firstsOf_map, mem_once]
      exact List.mem_map_of_mem hr
    obtain ⟨f, hf, ef⟩ := List.mem_map.mp h
    exact ⟨f, hf, ef⟩
  have h1 : card ((firstsOf c R).map c0) = card (R.map c0) := card_same fun x => by
    constructor
    · intro hx
      obtain ⟨f, hf, rfl⟩ := List.mem_map.mp hx
      exact List.mem_map_of_mem (firstsOf_sub _ _ f hf)
    · intro hx
      obtain ⟨r, hr2, rfl⟩ := List.mem_map.mp hx
      obtain ⟨f, hf, ef⟩ := rep r hr2
      exact List.mem_map.mpr ⟨f, hf, hr f (firstsOf_sub _ _ f hf) r hr2 ef⟩
  have h2 : (firstsOf c R).length = card (R.map c) := by
    have := congrArg List.length (firstsOf_map c R)
    rw [List.length_map] at this
    exact this
  have h3 : ((firstsOf c R).map c0).Nodup := nodup_of_once (by rw [List.length_map, h1, h2]; exact hc)
  obtain ⟨f, hf, ef⟩ := rep r hr'
  obtain ⟨g, hg, eg⟩ := rep s hs'
  have e1 : c0 f = c0 r := hr f (firstsOf_sub _ _ f hf) r hr' ef
  have e2 : c0 g = c0 s := hr g (firstsOf_sub _ _ g hg) s hs' eg
  obtain ⟨i, hi⟩ := List.mem_iff_getElem?.mp hf
  obtain ⟨j, hj⟩ := List.mem_iff_getElem?.mp hg
  have hij : i = j := by
    have g1 : ((firstsOf c R).map c0)[i]? = some (c0 r) := by rw [List.getElem?_map, hi]; exact congrArg some e1
    have g2 : ((firstsOf c R).map c0)[j]? = some (c0 r) := by rw [List.getElem?_map, hj]; exact congrArg some (e2.trans e.symm)
    exact (List.getElem?_inj (List.getElem?_eq_some_iff.mp g1).1 h3).mp (g1.trans g2.symm)
  rw [hij, hj] at hi
  cases hi
  rw [← ef, ← eg]
namespace Mc
variable {m : Mc} {k : Nat}
/-- classes on the way: none alike by all texts is parted; yes is told; they are made of those ahead -/
structure Way (m : Mc) (c : Nat → Nat) (many : Nat) : Prop where
  sound : ∀ r ∈ m.come, ∀ s ∈ m.come, m.eqv r s → c r = c s
  yes : ∀ r ∈ m.come, ∀ s ∈ m.come, c r = c s → m.y r = m.y s
  prev : many = 0 ∨ ∃ c0 : Nat → Nat, many = card (m.come.map c0) ∧ ∀ r ∈ m.come, ∀ s ∈ m.come, c r = c s ↔ c0 r = c0 s ∧ (m.succ r).map c0 = (m.succ s).map c0
theorem Way.start {c : Nat → Nat} (h : ∀ r ∈ m.come, c r = (m.y r).toNat) : m.Way c 0 where
  sound := fun r hr s hs e => by rw [h r hr, h s hs, eqv_y e]
  yes := fun r hr s hs e => by
    rw [h r hr, h s hs] at e
    cases q : m.y r <;> cases q' : m.y s <;> simp_all
  prev := .inl rfl
theorem Way.le {c : Nat → Nat} {many : Nat} (w : m.Way c many) : many ≤ card (m.come.map c) := by
  rcases w.prev with h | ⟨c0, h, q⟩
  · omega
  · rw [h]
    rcases Nat.lt_or_ge (card (m.come.map c)) (card (m.come.map c0)) with z | z
    · have f := fine_same (c := c) (c0 := c0) (fun r hr s hs e => ((q r hr s hs).mp e).1) (Nat.le_of_lt z)
      have e : card (m.come.map c0) ≤ card (m.come.map c) := by
        rcases Nat.lt_or_ge (card (m.come.map c)) (card (m.come.map c0)) with z | z
        · -- c0 is told by c as well: as many
          have h2 : (firstsOf c0 m.come).length = card (m.come.map c0) := by
            have := congrArg List.length (firstsOf_map c0 m.come)
            rw [List.length_map] at this
            exact this
          have h3 : (firstsOf c m.come).length = card (m.come.map c) := by
            have := congrArg List.length (firstsOf_map c m.come)
            rw [List.length_map] at this
            exact this
          have h4 : firstsOf c m.come = firstsOf c0 m.come := firstsOf_congr fun r hr s hs => ⟨fun e => ((q r hr s hs).mp e).1, f r hr s hs⟩
          rw [← h2, ← h3, h4]
          exact Nat.le_refl _
        · exact z
      omega
    · exact z
theorem Way.card_le {c : Nat → Nat} {many : Nat} (w : m.Way c many) : card (m.come.map c) ≤ m.come.length := by
  have := Kw.card_le (m.come.map c)
  rw [List.length_map] at this
  exact this
theorem card_pos {c : Nat → Nat} : 0 < card (m.come.map c) := by
  unfold card
  exact List.length_pos_of_mem (mem_once.mpr (List.mem_map_of_mem (zero_come (m := m))))
/-- one turn -/
theorem Way.turn {c c' : Nat → Nat} {many : Nat} (hv : m.Valid k) (w : m.Way c many) (h : ∀ r ∈ m.come, ∀ s ∈ m.come, c' r = c' s ↔ c r = c s ∧ (m.succ r).map c = (m.succ s).map c) : m.Way c' (card (m.come.map c)) where
  sound := fun r hr s hs e => by
    refine (h r hr s hs).mpr ⟨w.sound r hr s hs e, ?_⟩
    have l1 := succ_len hv (come_lt hv r hr)
    have l2 := succ_len hv (come_lt hv s hs)
    refine List.ext_getElem (by simp [l1, l2]) fun i h1 h2 => ?_
    have hi1 : i < (m.succ r).length := by simpa using h1
    have hi2 : i < (m.succ s).length := by simpa using h2
    have t1 : m.to r i = (m.succ r)[i] := by unfold to; rw [List.getD_eq_getElem?_getD, List.getElem?_eq_getElem hi1]; rfl
    have t2 : m.to s i = (m.succ s)[i] := by unfold to; rw [List.getD_eq_getElem?_getD, List.getElem?_eq_getElem hi2]; rfl
    rw [List.getElem_map, List.getElem_map, ← t1, ← t2]
    exact w.sound _ (to_come hv hr i) _ (to_come hv hs i) (eqv_to e i)
  yes := fun r hr s hs e => w.yes r hr s hs ((h r hr s hs).mp e).1
  prev := .inr ⟨c, rfl, h⟩
/-- no more of them than a turn ahead: the classes are what texts part -/
theorem Way.done {c : Nat → Nat} {many : Nat} (hv : m.Valid k) (w : m.Way c many) (he : card (m.come.map c) ≤ many) : m.Parts c := by
  rcases w.prev with z | ⟨c0, hm, q⟩
  · have := card_pos (m := m) (c := c)
    omega
  · have f := fine_same (c := c) (c0 := c0) (fun r hr s hs e => ((q r hr s hs).mp e).1) (by omega)
    have st : ∀ (w : List Nat) (r s : Nat), r ∈ m.come → s ∈ m.come → c r = c s → c (m.run r w) = c (m.run s w) := by
      intro w
      induction w with
      | nil => intro r s _ _ e; exact e
      | cons a w ih =>
        intro r s hr hs e
        rw [run_cons, run_cons]
        refine ih _ _ (to_come hv hr a) (to_come hv hs a) (f _ (to_come hv hr a) _ (to_come hv hs a) ?_)
        have e2 := ((q r hr s hs).mp e).2
        have l1 := succ_len hv (come_lt hv r hr)
        have l2 := succ_len hv (come_lt hv s hs)
        by_cases ha : a < k
        · have e3 := congrArg (fun l => l.getD a 0) e2
          have e3 : ((m.succ r).map c0).getD a 0 = ((m.succ s).map c0).getD a 0 := e3
          rw [getD_map0 (by omega), getD_map0 (by omega)] at e3
          exact e3
        · rw [to_out (by omega), to_out (by omega)]
    intro r hr s hs
    constructor
    · intro e u
      exact w.yes _ (run_come hv u hr) _ (run_come hv u hs) (st u r s hr hs e)
    · exact w.sound r hr s hs

/-! ### told by another order of its rooms -/
theorem succ_mk {rows : List (List Nat)} {ys : List Bool} {i : Nat} {row : List Nat} (h : rows[i]? = some row) : (Mc.mk rows ys).succ i = row := by
  show rows.getD i [] = row
  rw [List.getD_eq_getElem?_getD, h]
  rfl
theorem perm_renum (h : m.Canon k) {n : Nat} (hn : n = m.mv.length) {g inv : Nat → Nat} (hg : ∀ i < n, g i < n) (g0 : g 0 = 0) (h1 : ∀ i < n, inv (g i) = i) (h2 : ∀ t < n, inv t < n) (h3 : ∀ t < n, g (inv t) = t) :
    (Mc.mk ((List.range n).map fun i => (m.succ (g i)).map inv) ((List.range n).map fun i => m.y (g i))).renum = m := by
  subst hn
  generalize hm' : Mc.mk ((List.range m.mv.length).map fun i => (m.succ (g i)).map inv) ((List.range m.mv.length).map fun i => m.y (g i)) = m'
  have sc : ∀ i < m.mv.length, m'.succ i = (m.succ (g i)).map inv := fun i hi => by
    rw [← hm']
    refine succ_mk ?_
    rw [List.getElem?_map, List.getElem?_range hi]
    rfl
  have len : m'.mv.length = m.mv.length := by rw [← hm']; simp
  have P0 : (0 : Nat) < m.mv.length := h.pos
  have stay : ∀ r t, r < m.mv.length → t ∈ m'.succ r → t < m.mv.length := fun r t hr ht => by
    rw [sc r hr] at ht
    obtain ⟨q, hq, rfl⟩ := List.mem_map.mp ht
    exact h2 q (succ_lt h.toValid hq)
  have all : ∀ r ∈ m'.come, r < m.mv.length := it_all (succ := m'.succ) (a := 0) (P := fun r => r < m.mv.length) P0 stay _
  have e := it_mapOn (succ := m'.succ) (succ' := m.succ) (a := 0) (f := g) (P := fun r => r < m.mv.length) P0 stay (fun x y hx hy e => by rw [← h1 x hx, ← h1 y hy, e]) (fun r hr => by
    rw [sc r hr, List.map_map]
    have : (m.succ (g r)).map (g ∘ inv) = (m.succ (g r)).map fun x => x := List.map_congr_left fun t ht => h3 t (succ_lt h.toValid ht)
    rw [this, List.map_id']) m.mv.length
  rw [g0] at e
  have e' : (m'.come).map g = List.range m.mv.length := by
    unfold come
    rw [len, e]
    exact h.order
  have cl : m'.come.length = m.mv.length := by
    have := congrArg List.length e'
    simpa using this
  have at_ : ∀ t, t < m.mv.length → m'.come[t]? = some (inv t) := fun t ht => by
    have q : t < m'.come.length := by omega
    have e1 : (m'.come.map g)[t]? = some t := by rw [e', List.getElem?_range ht]
    rw [List.getElem?_map, List.getElem?_eq_getElem q] at e1
    have e2 : g m'.come[t] = t := Option.some.inj e1
    have e3 : m'.come[t] < m.mv.length := all _ (List.getElem_mem q)
    rw [List.getElem?_eq_getElem q]
    refine congrArg some ?_
    rw [← h1 _ e3, e2]
  have ix : ∀ t, t < m.mv.length → m'.come.idxOf (inv t) = t := fun t ht => by
    have q : t < m'.come.length := by omega
    have e1 : m'.come[t] = inv t := Option.some.inj ((List.getElem?_eq_getElem q).symm.trans (at_ t ht))
    rw [← e1]
    exact (come_nodup (m := m')).idxOf_getElem t q
  have ce : m'.come = (List.range m.mv.length).map inv := by
    refine List.ext_getElem? fun t => ?_
    by_cases ht : t < m.mv.length
    · rw [at_ t ht, List.getElem?_map, List.getElem?_range ht]
      rfl
    · rw [List.getElem?_eq_none (by omega), List.getElem?_eq_none (by simp; omega)]
  have e1 : m'.come.map (fun r => (m'.succ r).map fun t => m'.come.idxOf t) = m.mv := by
    conv => lhs; arg 2; rw [ce]
    rw [List.map_map]
    refine Eq.trans (List.map_congr_left fun i hi => ?_) (canon_range h)
    have hi : i < m.mv.length := List.mem_range.mp hi
    show (m'.succ (inv i)).map (fun t => m'.come.idxOf t) = m.succ i
    rw [sc _ (h2 i hi), h3 i hi, List.map_map]
    have : (m.succ i).map ((fun t => m'.come.idxOf t) ∘ inv) = (m.succ i).map fun x => x := List.map_congr_left fun t ht => ix t (succ_lt h.toValid ht)
    rw [this, List.map_id']
  have e2 : m'.come.map m'.y = m.ys := by
    rw [ce, List.map_map]
    refine Eq.trans (List.map_congr_left fun i hi => ?_) (canon_ys h)
    have hi : i < m.mv.length := List.mem_range.mp hi
    show m'.ys.getD (inv i) false = m.y i
    rw [← hm', List.getD_eq_getElem?_getD]
    show (((List.range m.mv.length).map fun i => m.y (g i))[inv i]?).getD false = m.y i
    rw [List.getElem?_map, List.getElem?_range (h2 i hi)]
    show m.y (g (inv i)) = m.y i
    rw [h3 i hi]
  unfold renum
  rw [e1, e2]
/-- the least of m and m told by the order in which its rooms come up are alike: a room of the one for each of the other -/
structure Alike (f g : Mc) (h : Nat → Nat) : Prop where
  zero : h 0 = 0
  low : ∀ i < g.mv.length, h i < f.mv.length
  yes : ∀ i < g.mv.length, f.y (h i) = g.y i
  lead : ∀ i < g.mv.length, f.succ (h i) = (g.succ i).map h
theorem renum_len : m.renum.mv.length = m.come.length := List.length_map _
theorem renum_succ {i r : Nat} (h : m.come[i]? = some r) : m.renum.succ i = (m.succ r).map fun t => m.come.idxOf t := succ_mk (by rw [List.getElem?_map, h]; rfl)
theorem renum_y {i r : Nat} (h : m.come[i]? = some r) : m.renum.y i = m.y r := by
  show (m.come.map m.y).getD i false = m.y r
  rw [List.getD_eq_getElem?_getD, List.getElem?_map, h]
  rfl
theorem idx_at {t : Nat} (ht : t ∈ m.come) : m.come.getD (m.come.idxOf t) 0 = t := by
  rw [List.getD_eq_getElem?_getD, List.getElem?_eq_getElem (List.idxOf_lt_length_of_mem ht)]
  exact List.getElem_idxOf _
theorem alike_least (hv : m.Valid k) {c : Nat → Nat} (hp : m.Parts c) : Alike (m.leastC c) m.renum fun i => m.num c (m.come.getD i 0) where
  zero := by
    have : m.come.getD 0 0 = 0 := by rw [List.getD_eq_getElem?_getD, come_head]; rfl
    show m.num c (m.come.getD 0 0) = 0
    rw [this, num_zero hv]
  low := fun i hi => by
    rw [renum_len] at hi
    rw [least_n hv]
    exact num_lt hv (getD_mem hi)
  yes := fun i hi => by
    rw [renum_len] at hi
    have e : m.come[i]? = some (m.come.getD i 0) := by rw [List.getD_eq_getElem?_getD, List.getElem?_eq_getElem hi]; rfl
    rw [renum_y e, least_y hv hp (getD_mem hi)]
  lead := fun i hi => by
    rw [renum_len] at hi
    have e : m.come[i]? = some (m.come.getD i 0) := by rw [List.getD_eq_getElem?_getD, List.getElem?_eq_getElem hi]; rfl
    rw [renum_succ e, least_succ hv hp (getD_mem hi), List.map_map]
    refine List.map_congr_left fun t ht => ?_
    show m.num c t = m.num c (m.come.getD (m.come.idxOf t) 0)
    rw [idx_at (come_closed hv (getD_mem hi) ht)]
theorem renum_valid (hv : m.Valid k) : m.renum.Valid k where
  pos := by rw [renum_len]; exact come_pos
  len := by rw [renum_len]; exact List.length_map _
  wide := fun row h => by
    obtain ⟨r, hr, rfl⟩ := List.mem_map.mp h
    rw [List.length_map]
    exact succ_len hv (come_lt hv r hr)
  low := fun row h t ht => by
    obtain ⟨r, hr, rfl⟩ := List.mem_map.mp h
    obtain ⟨q, hq, rfl⟩ := List.mem_map.mp ht
    rw [renum_len]
    exact List.idxOf_lt_length_of_mem (come_closed hv hr hq)
/-- each room of a machine told by that order, but the first, is led to from one ahead of it -/
theorem order_of {g : Mc} (hv : g.Valid k) (ho : g.come = List.range g.mv.length) {i : Nat} (hi : i < g.mv.length) (h0 : i ≠ 0) : ∃ j < i, i ∈ g.succ j := by
  -- the step at which i comes up
  have hmem : i ∈ it g.succ 0 g.mv.length := by
    have : i ∈ g.come := by rw [ho]; exact List.mem_range.mpr hi
    exact this
  have pre : ∀ n, it g.succ 0 n <+: List.range g.mv.length := fun n => by
    rw [← ho]
    rcases Nat.le_total n g.mv.length with q | q
    · exact it_pre q
    · rw [it_stop (come_len hv) q]
      exact List.prefix_rfl
  have first : ∀ n, i ∈ it g.succ 0 n → ∃ j < n, i ∈ g.succ j ∧ j < i := by
    intro n
    induction n with
    | zero =>
      intro h
      have : i = 0 := by simpa [it] using h
      exact absurd this h0
    | succ n ih =>
      intro h
      by_cases q : i ∈ it g.succ 0 n
      · obtain ⟨j, h1, h2, h3⟩ := ih q
        exact ⟨j, by omega, h2, h3⟩
      · cases e : (it g.succ 0 n)[n]? with
        | none => rw [it_none e] at h; exact absurd h q
        | some r =>
          rw [it_some e, mem_pushAll] at h
          rcases h with h | h
          · exact absurd h q
          · have hr : r = n := by
              have := (pre n).getElem (List.getElem?_eq_some_iff.mp e).1
              rw [(List.getElem?_eq_some_iff.mp e).2] at this
              simpa using this
            subst hr
            refine ⟨r, by omega, h, ?_⟩
            rcases Nat.lt_or_ge r i with z | z
            · exact z
            · exfalso
              apply q
              have hl := (List.getElem?_eq_some_iff.mp e).1
              have : (it g.succ 0 r)[i]? = some i := by
                have hz : i < (it g.succ 0 r).length := by omega
                have := (pre r).getElem hz
                rw [List.getElem?_eq_getElem hz, this]
                simp
              exact List.mem_of_getElem? this
  obtain ⟨j, _, h2, h3⟩ := first _ hmem
  exact ⟨j, h3, h2⟩
end Mc

/-! ### graphs of rooms -/
structure Gr (ρ : Type) where
  first : ρ
  onw : ρ → Nat → ρ
  isY : ρ → Bool
namespace Gr
variable {ρ : Type} [DecidableEq ρ] (g : Gr ρ) (k : Nat)
def succ (r : ρ) : List ρ := (List.range k).map (g.onw r)
def rooms (b : Nat) : List ρ := it (g.succ k) g.first b
def run (r : ρ) (w : List Nat) : ρ := w.foldl g.onw r
def acc (w : List Nat) : Bool := g.isY (g.run g.first w)
/-- the machine of rooms that came up -/
def mc (R : List ρ) : Mc := ⟨R.map fun r => (g.succ k r).map fun t => R.idxOf t, R.map g.isY⟩
variable {g k}
section
variable {b : Nat} (hc : (g.rooms k b).length ≤ b)
theorem mc_len {R : List ρ} : (g.mc k R).mv.length = R.length := List.length_map _
theorem mc_succ {R : List ρ} {i : Nat} {r : ρ} (h : R[i]? = some r) : (g.mc k R).succ i = (g.succ k r).map fun t => R.idxOf t := Mc.succ_mk (by rw [List.getElem?_map, h]; rfl)
theorem mc_y {R : List ρ} {i : Nat} {r : ρ} (h : R[i]? = some r) : (g.mc k R).y i = g.isY r := by
  show (R.map g.isY).getD i false = g.isY r
  rw [List.getD_eq_getElem?_getD, List.getElem?_map, h]
  rfl
include hc
theorem closed {r t : ρ} (hr : r ∈ g.rooms k b) (ht : t ∈ g.succ k r) : t ∈ g.rooms k b := it_closed hc hr ht
theorem mc_valid : (g.mc k (g.rooms k b)).Valid k where
  pos := by rw [mc_len]; exact it_pos _
  len := by rw [mc_len]; exact List.length_map _
  wide := fun row h => by
    obtain ⟨r, hr, rfl⟩ := List.mem_map.mp h
    simp [succ]
  low := fun row h t ht => by
    obtain ⟨r, hr, rfl⟩ := List.mem_map.mp h
    obtain ⟨q, hq, rfl⟩ := List.mem_map.mp ht
    rw [mc_len]
    exact List.idxOf_lt_length_of_mem (closed hc hr hq)
omit hc in
theorem idx_get {R : List ρ} {r : ρ} (h : r ∈ R) : R[R.idxOf r]? = some r := by
  rw [List.getElem?_eq_getElem (List.idxOf_lt_length_of_mem h)]
  exact congrArg some (List.getElem_idxOf _)
omit hc in
theorem idx_first : (g.rooms k b).idxOf g.first = 0 := by
  have h := it_head (succ := g.succ k) (a := g.first) b
  have hn := it_nodup (succ := g.succ k) (a := g.first) b
  have hl := (List.getElem?_eq_some_iff.mp h).1
  have e := (List.getElem?_eq_some_iff.mp h).2
  have := hn.idxOf_getElem 0 hl
  rw [e] at this
  exact this
theorem mc_order : (g.mc k (g.rooms k b)).come = List.range (g.rooms k b).length := by
  have e := it_mapOn (succ := g.succ k) (succ' := (g.mc k (g.rooms k b)).succ) (a := g.first) (f := fun t => (g.rooms k b).idxOf t) (P := fun r => r ∈ g.rooms k b) (it_first _) (fun r t hr ht => closed hc hr ht)
    (fun x y hx hy e => by
      have h1 := idx_get hx
      have h2 := idx_get hy
      have e : (g.rooms k b).idxOf x = (g.rooms k b).idxOf y := e
      rw [e, h2] at h1
      exact (Option.some.inj h1).symm) (fun r hr => (mc_succ (idx_get hr)).symm) b
  rw [idx_first] at e
  have hn := it_nodup (succ := g.succ k) (a := g.first) b
  have e2 : (g.rooms k b).map (fun t => (g.rooms k b).idxOf t) = List.range (g.rooms k b).length := by
    refine List.ext_getElem (by simp) fun i h1 h2 => ?_
    rw [List.getElem_map, List.getElem_range]
    exact hn.idxOf_getElem i _
  have e3 : it (g.mc k (g.rooms k b)).succ 0 b = List.range (g.rooms k b).length := by
    rw [← e]
    exact e2
  rw [← e3]
  exact (Mc.come_any (mc_valid hc) (by rw [e3, List.length_range]; exact hc)).symm
theorem mc_renum : (g.mc k (g.rooms k b)).renum = g.mc k (g.rooms k b) := by
  have hv := mc_valid hc
  have ho := mc_order hc
  unfold Mc.renum
  rw [ho]
  have e1 : (List.range (g.rooms k b).length).map (fun r => ((g.mc k (g.rooms k b)).succ r).map fun t => (List.range (g.rooms k b).length).idxOf t) = (g.mc k (g.rooms k b)).mv := by
    refine List.ext_getElem (by rw [mc_len]; simp) fun i h1 h2 => ?_
    rw [List.getElem_map, List.getElem_range]
    have e0 : (g.mc k (g.rooms k b)).succ i = (g.mc k (g.rooms k b)).mv[i] := by
      unfold Mc.succ
      rw [List.getD_eq_getElem?_getD, List.getElem?_eq_getElem h2]
      rfl
    rw [e0]
    have : ((g.mc k (g.rooms k b)).mv[i]).map (fun t => (List.range (g.rooms k b).length).idxOf t) = ((g.mc k (g.rooms k b)).mv[i]).map fun x => x := List.map_congr_left fun t ht => by
      have hn : (List.range (g.rooms k b).length).Nodup := List.nodup_range
      have hlt := hv.low _ (List.getElem_mem h2) t ht
      rw [mc_len] at hlt
      have := hn.idxOf_getElem t (by simpa using hlt)
      simpa using this
    rw [this, List.map_id']
  have e2 : (List.range (g.rooms k b).length).map (g.mc k (g.rooms k b)).y = (g.mc k (g.rooms k b)).ys := by
    refine List.ext_getElem (by simp [mc]) fun i h1 h2 => ?_
    rw [List.getElem_map, List.getElem_range]
    unfold Mc.y
    rw [List.getD_eq_getElem?_getD, List.getElem?_eq_getElem h2]
    rfl
  rw [e1, e2]
theorem mc_run : ∀ (w : List Nat), (∀ a ∈ w, a < k) → ∀ r ∈ g.rooms k b, g.run r w ∈ g.rooms k b ∧ (g.mc k (g.rooms k b)).run ((g.rooms k b).idxOf r) w = (g.rooms k b).idxOf (g.run r w)
  | [], _, r, hr => ⟨hr, rfl⟩
  | a :: w, hw, r, hr => by
    have ha := hw a List.mem_cons_self
    have hm : g.onw r a ∈ g.succ k r := List.mem_map_of_mem (List.mem_range.mpr ha)
    have hr' := closed hc hr hm
    have e : (g.mc k (g.rooms k b)).to ((g.rooms k b).idxOf r) a = (g.rooms k b).idxOf (g.onw r a) := by
      unfold Mc.to
      rw [mc_succ (idx_get hr), List.getD_eq_getElem?_getD, List.getElem?_map, succ, List.getElem?_map, List.getElem?_range ha]
      rfl
    have := mc_run w (fun x hx => hw x (List.mem_cons_of_mem _ hx)) _ hr'
    rw [Mc.run_cons, e]
    exact this
theorem mc_acc {w : List Nat} (hw : ∀ a ∈ w, a < k) : (g.mc k (g.rooms k b)).acc w = g.acc w := by
  have h := mc_run hc w hw g.first (it_first _)
  rw [idx_first] at h
  unfold Mc.acc acc
  rw [h.2]
  exact mc_y (idx_get h.1)
end
end Gr
end Kw
set_option linter.all false
/-! Plain mathematics, part 4: rows of an expression, their machines, what they tell. No program in sight. -/
namespace Kw
open Mc
inductive Row where
  | nothing | blank | letter (a : Nat) | no (i : Nat) | or (i j : Nat) | and (i j : Nat) | behind (i j : Nat)
  deriving DecidableEq
/-- a room: of one machine, of two, of one and some of another -/
inductive Rm where
  | one (i : Nat) | two (i j : Nat) | some (i : Nat) (js : List Nat)
  deriving DecidableEq
def Rm.nr : Rm → Nat
  | .one i => i
  | _ => 0
def Row.joint : Row → Bool
  | .or _ _ => true
  | .and _ _ => true
  | .behind _ _ => true
  | _ => false
def Row.fits (k at_ : Nat) : Row → Prop
  | .letter a => a < k
  | .no i => i < at_
  | .or i j => i < at_ ∧ j < at_
  | .and i j => i < at_ ∧ j < at_
  | .behind i j => i < at_ ∧ j < at_
  | _ => True
/-- the numbers of a list, each once, rising -/
def ss (l : List Nat) : List Nat := (List.range (l.foldr max 0 + 1)).filter fun x => decide (x ∈ l)
theorem le_foldr_max {x : Nat} : ∀ {l : List Nat}, x ∈ l → x ≤ l.foldr max 0
  | y :: l, h => by
    rw [List.foldr_cons]
    rcases List.mem_cons.mp h with e | h
    · omega
    · have := le_foldr_max h
      omega
theorem mem_ss {x : Nat} {l : List Nat} : x ∈ ss l ↔ x ∈ l := by
  unfold ss
  rw [List.mem_filter, List.mem_range]
  constructor
  · intro h
    exact of_decide_eq_true h.2
  · intro h
    have := le_foldr_max h
    exact ⟨by omega, decide_eq_true h⟩
theorem ss_rise (l : List Nat) : (ss l).Pairwise (· < ·) := List.pairwise_lt_range.filter _
theorem rise_unique : ∀ {l m : List Nat}, l.Pairwise (· < ·) → m.Pairwise (· < ·) → (∀ x, x ∈ l ↔ x ∈ m) → l = m
  | [], [], _, _, _ => rfl
  | [], y :: m, _, _, h => absurd ((h y).mpr List.mem_cons_self) (by simp)
  | x :: l, [], _, _, h => absurd ((h x).mp List.mem_cons_self) (by simp)
  | x :: l, y :: m, hl, hm, h => by
    obtain ⟨h1, h2⟩ := List.pairwise_cons.mp hl
    obtain ⟨g1, g2⟩ := List.pairwise_cons.mp hm
    have e : x = y := by
      rcases List.mem_cons.mp ((h x).mp List.mem_cons_self) with e | q
      · exact e
      · rcases List.mem_cons.mp ((h y).mpr List.mem_cons_self) with e | q'
        · exact e.symm
        · have a := g1 x q
          have b := h1 y q'
          omega
    subst e
    refine congrArg (x :: ·) (rise_unique h2 g2 fun z => ?_)
    constructor
    · intro hz
      have lt := h1 z hz
      rcases List.mem_cons.mp ((h z).mp (List.mem_cons_of_mem _ hz)) with e | q
      · omega
      · exact q
    · intro hz
      have lt := g1 z hz
      rcases List.mem_cons.mp ((h z).mpr (List.mem_cons_of_mem _ hz)) with e | q
      · omega
      · exact q
theorem ss_eq {l m : List Nat} (hm : m.Pairwise (· < ·)) (h : ∀ x, x ∈ m ↔ x ∈ l) : m = ss l := rise_unique hm (ss_rise l) fun x => (h x).trans mem_ss.symm
theorem ss_len_lt {l : List Nat} {b : Nat} (h : ∀ x ∈ l, x < b) : (ss l).length ≤ b :=
  nodup_lt_length ((ss_rise l).imp fun h => Nat.ne_of_lt h) fun x hx => h x (mem_ss.mp hx)

def mk0 : Mc := ⟨[], []⟩
section
variable (k : Nat) (made : List Mc)
def part (i : Nat) : Mc := made.getD i mk0
/-- where a row's rooms begin, where they lead, which have yes -/
def firstR : Row → Rm
  | .or _ _ => .two 0 0
  | .and _ _ => .two 0 0
  | .behind i _ => .some 0 (if (part made i).y 0 then [0] else [])
  | _ => .one 0
def onwR : Row → Rm → Nat → Rm
  | .nothing, _, _ => .one 0
  | .blank, _, _ => .one 1
  | .letter b, .one 0, a => if a = b then .one 1 else .one 2
  | .letter _, _, _ => .one 2
  | .no i, .one r, a => .one ((part made i).to r a)
  | .or i j, .two r s, a => .two ((part made i).to r a) ((part made j).to s a)
  | .and i j, .two r s, a => .two ((part made i).to r a) ((part made j).to s a)
  | .behind i j, .some r S, a => .some ((part made i).to r a) (ss (S.map (fun t => (part made j).to t a) ++ if (part made i).y ((part made i).to r a) then [0] else []))
  | _, r, _ => r
def yesR : Row → Rm → Bool
  | .blank, .one r => r == 0
  | .letter _, .one r => r == 1
  | .no i, .one r => !(part made i).y r
  | .or i j, .two r s => (part made i).y r || (part made j).y s
  | .and i j, .two r s => (part made i).y r && (part made j).y s
  | .behind _ j, .some _ S => S.any (part made j).y
  | _, _ => false
def gr (row : Row) : Gr Rm := ⟨firstR made row, onwR made row, yesR made row⟩
/-- so many turns that no more come up -/
@[irreducible] def far : Nat := 512
/-- more rooms than most come up -/
def over (most : Nat) (row : Row) : Bool := row.joint && decide (most < ((gr made row).rooms k most).length)
/-- the rooms told as a machine: what the law walks -/
def grownM (row : Row) : Mc := (gr made row).mc k ((gr made row).rooms k far)
/-- the machine of which the least is taken -/
def rawM (row : Row) : Mc := match row with
  | .nothing => ⟨[List.replicate k 0], [false]⟩
  | .blank => ⟨[List.replicate k 1, List.replicate k 1], [true, false]⟩
  | .letter b => ⟨[(List.range k).map (fun a => if a = b then 1 else 2), List.replicate k 2, List.replicate k 2], [false, true, false]⟩
  | .no i => ⟨(part made i).mv, (part made i).ys.map (!·)⟩
  | row => (gr made row).mc k ((gr made row).rooms k far)
noncomputable def rowM (row : Row) : Mc := (rawM k made row).least
noncomputable def stepR (most : Nat) (row : Row) : Option Mc := if over k made most row then none else some (rowM k made row)
end
/-- the machines of the rows, or the number of the first that has too many rooms -/
noncomputable def build (k most : Nat) : List Mc → List Row → Except Nat (List Mc)
  | made, [] => .ok made
  | made, row :: rows => match stepR k made most row with
    | none => .error made.length
    | some m => build k most (made ++ [m]) rows
theorem build_app {k most : Nat} : ∀ {rows more : List Row} {made ms : List Mc}, build k most made rows = .ok ms → build k most made (rows ++ more) = build k most ms more
  | [], more, made, ms, h => by cases h; rfl
  | row :: rows, more, made, ms, h => by
    rw [List.cons_append]
    rw [build] at h ⊢
    cases e : stepR k made most row with
    | none => rw [e] at h; cases h
    | some m =>
      rw [e] at h
      exact build_app h
theorem build_app_err {k most : Nat} : ∀ {rows more : List Row} {made : List Mc} {at_ : Nat}, build k most made rows = .error at_ → build k most made (rows ++ more) = .error at_
  | [], more, made, _, h => by cases h
  | row :: rows, more, made, _, h => by
    rw [List.cons_append]
    rw [build] at h ⊢
    cases e : stepR k made most row with
    | none => rw [e] at h; exact h
    | some m =>
      rw [e] at h
      exact build_app_err h
theorem build_len {k most : Nat} : ∀ {rows : List Row} {made ms : List Mc}, build k most made rows = .ok ms → ms.length = made.length + rows.length
  | [], made, ms, h => by cases h; rfl
  | row :: rows, made, ms, h => by
    rw [build] at h
    cases e : stepR k made most row with
    | none => rw [e] at h; cases h
    | some m =>
      rw [e] at h
      have := build_len h
      rw [List.length_append, List.length_singleton] at this
      rw [List.length_cons]
      omega
theorem build_snoc {k most : Nat} {rows : List Row} {ms : List Mc} {row : Row} (h : build k most [] rows = .ok ms) : build k most [] (rows ++ [row]) = match stepR k ms most row with
    | none => .error ms.length
    | some m => .ok (ms ++ [m]) := by
  rw [build_app h, build]
  cases stepR k ms most row <;> rfl

/-! ### machines that stand as parts -/
/-- a list of least machines, none with more than b rooms -/
def Parts (k b : Nat) (made : List Mc) : Prop := ∀ m ∈ made, m.Canon k ∧ m.mv.length ≤ b
section
variable {k b : Nat} {made : List Mc} {i j : Nat}
theorem Parts.at (h : Kw.Parts k b made) (hi : i < made.length) : (part made i).Canon k ∧ (part made i).mv.length ≤ b := by
  unfold part
  rw [List.getD_eq_getElem?_getD, List.getElem?_eq_getElem hi]
  exact h _ (List.getElem_mem hi)
theorem eqv_not {m : Mc} (hv : m.Valid k) {r s : Nat} (hr : r < m.mv.length) (hs : s < m.mv.length) : (Mc.mk m.mv (m.ys.map (!·))).eqv r s ↔ m.eqv r s := by
  have run_eq : ∀ (w : List Nat) (r : Nat), (Mc.mk m.mv (m.ys.map (!·))).run r w = m.run r w := fun w => by
    induction w with
    | nil => intro r; rfl
    | cons a w ih => intro r; exact ih _
  have y_eq : ∀ r, r < m.mv.length → (Mc.mk m.mv (m.ys.map (!·))).y r = !(m.y r) := fun r hr => by
    unfold Mc.y
    have hr' : r < m.ys.length := by rw [hv.len]; exact hr
    rw [List.getD_eq_getElem?_getD, List.getD_eq_getElem?_getD, List.getElem?_map, List.getElem?_eq_getElem hr']
    rfl
  constructor
  · intro h w
    have := h w
    rw [run_eq, run_eq, y_eq _ (run_lt hv w hr), y_eq _ (run_lt hv w hs)] at this
    cases q : m.y (m.run r w) <;> cases q' : m.y (m.run s w) <;> simp_all
  · intro h w
    rw [run_eq, run_eq, y_eq _ (run_lt hv w hr), y_eq _ (run_lt hv w hs), h w]
theorem not_valid {m : Mc} (h : m.Valid k) : (Mc.mk m.mv (m.ys.map (!·))).Valid k := ⟨h.pos, by rw [List.length_map]; exact h.len, h.wide, h.low⟩
theorem not_canon {m : Mc} (h : m.Canon k) : (Mc.mk m.mv (m.ys.map (!·))).Canon k :=
  { not_valid h.toValid with apart := fun i hi j hj e => h.apart i hi j hj ((eqv_not h.toValid hi hj).mp e), order := h.order }
theorem nothing_valid : (rawM k made .nothing).Valid k where
  pos := by simp [rawM]
  len := by simp [rawM]
  wide := fun row h => by
    simp [rawM] at h
    simp [h]
  low := fun row h t ht => by
    simp [rawM] at h
    subst h
    have := List.eq_of_mem_replicate ht
    simp [rawM, this]
theorem blank_valid : (rawM k made .blank).Valid k where
  pos := by simp [rawM]
  len := by simp [rawM]
  wide := fun row h => by
    simp [rawM] at h
    simp [h]
  low := fun row h t ht => by
    simp [rawM] at h
    subst h
    have := List.eq_of_mem_replicate ht
    simp [rawM, this]
theorem letter_valid {a : Nat} : (rawM k made (.letter a)).Valid k where
  pos := by simp [rawM]
  len := by simp [rawM]
  wide := fun row h => by
    simp [rawM] at h
    rcases h with h | h <;> simp [h]
  low := fun row h t ht => by
    simp [rawM] at h
    rcases h with h | h
    · subst h
      obtain ⟨x, _, rfl⟩ := List.mem_map.mp ht
      show (if x = a then 1 else 2) < 3
      split <;> omega
    · subst h
      have := List.eq_of_mem_replicate ht
      simp [rawM, this]
theorem nothing_canon (hk : 0 < k) : (rawM k made .nothing).Canon k where
  toValid := nothing_valid
  apart := fun i hi j hj _ => by
    simp [rawM] at hi hj
    omega
  order := by
    have hv := nothing_valid (k := k) (made := made)
    have h1 := come_len hv
    have h2 := come_head (m := rawM k made .nothing)
    have h3 : (rawM k made .nothing).mv.length = 1 := rfl
    rw [h3] at h1 ⊢
    cases e : (rawM k made .nothing).come with
    | nil => rw [e] at h2; simp at h2
    | cons x l =>
      rw [e] at h1 h2
      have : l = [] := by
        have : l.length = 0 := by rw [List.length_cons] at h1; omega
        exact List.length_eq_zero_iff.mp this
      subst this
      obtain rfl : x = 0 := by simpa using h2
      rfl
theorem blank_canon (hk : 0 < k) : (rawM k made .blank).Canon k where
  toValid := blank_valid
  apart := fun i hi j hj h => by
    have e := h []
    simp [rawM] at hi hj
    have hi : i = 0 ∨ i = 1 := by omega
    have hj : j = 0 ∨ j = 1 := by omega
    rcases hi with rfl | rfl <;> rcases hj with rfl | rfl <;> first | rfl | (exact absurd e (by simp [rawM, Mc.y, Mc.run]))
  order := by
    obtain ⟨n, rfl⟩ : ∃ n, k = n + 1 := ⟨k - 1, by omega⟩
    have s0 : (rawM (n + 1) made .blank).succ 0 = List.replicate (n + 1) 1 := rfl
    have s1 : (rawM (n + 1) made .blank).succ 1 = List.replicate (n + 1) 1 := rfl
    have e1 : it (rawM (n + 1) made .blank).succ 0 1 = [0, 1] := by
      rw [it_some (r := 0) rfl, s0, it_zero, List.replicate_succ, pushAll_cons, push_out (by simp)]
      exact pushAll_in fun t ht => by
        have := List.eq_of_mem_replicate ht
        simp [this]
    have e2 : it (rawM (n + 1) made .blank).succ 0 2 = [0, 1] := by
      rw [it_some (r := 1) (by rw [e1]; rfl), s1, e1]
      exact pushAll_in fun t ht => by
        have := List.eq_of_mem_replicate ht
        simp [this]
    exact e2
theorem part_to_lt (h : (part made i).Canon k) (r a : Nat) : (part made i).to r a < (part made i).mv.length := to_lt h.toValid r a

/-! ### a row's rooms -/
/-- the rooms that a row may have -/
def okR (k : Nat) (made : List Mc) : Row → Rm → Prop
  | .nothing, .one r => r < 1
  | .blank, .one r => r < 2
  | .letter _, .one r => r < 3
  | .no i, .one r => r < (part made i).mv.length
  | .or i j, .two r s => r < (part made i).mv.length ∧ s < (part made j).mv.length
  | .and i j, .two r s => r < (part made i).mv.length ∧ s < (part made j).mv.length
  | .behind i j, .some r S => r < (part made i).mv.length ∧ S.Pairwise (· < ·) ∧ ∀ t ∈ S, t < (part made j).mv.length
  | _, _ => False
variable {row : Row} (hp : Kw.Parts k b made) (hf : row.fits k made.length)
include hp hf
theorem first_ok : okR k made row (firstR made row) := by
  cases row with
  | nothing => exact Nat.zero_lt_one
  | blank => exact Nat.zero_lt_two
  | letter a => exact Nat.zero_lt_succ 2
  | no i => exact (hp.at hf).1.pos
  | or i j => exact ⟨(hp.at hf.1).1.pos, (hp.at hf.2).1.pos⟩
  | and i j => exact ⟨(hp.at hf.1).1.pos, (hp.at hf.2).1.pos⟩
  | behind i j =>
    refine ⟨(hp.at hf.1).1.pos, ?_, ?_⟩
    · split <;> simp
    · intro t ht
      split at ht
      · obtain rfl : t = 0 := by simpa using ht
        exact (hp.at hf.2).1.pos
      · simp at ht
theorem onw_ok {r : Rm} (h : okR k made row r) (a : Nat) : okR k made row (onwR made row r a) := by
  cases row with
  | nothing =>
    cases r <;> first | exact h.elim | exact Nat.zero_lt_one
  | blank =>
    cases r <;> first | exact h.elim | exact Nat.one_lt_two
  | letter b =>
    cases r with
    | one i =>
      cases i with
      | zero =>
        show okR k made (.letter b) (if a = b then .one 1 else .one 2)
        split
        · exact (by decide : 1 < 3)
        · exact (by decide : 2 < 3)
      | succ i => exact (by decide : 2 < 3)
    | two => exact h.elim
    | some => exact h.elim
  | no i =>
    cases r <;> first | exact h.elim | exact part_to_lt (hp.at hf).1 _ _
  | or i j =>
    cases r <;> first | exact h.elim | exact ⟨part_to_lt (hp.at hf.1).1 _ _, part_to_lt (hp.at hf.2).1 _ _⟩
  | and i j =>
    cases r <;> first | exact h.elim | exact ⟨part_to_lt (hp.at hf.1).1 _ _, part_to_lt (hp.at hf.2).1 _ _⟩
  | behind i j =>
    cases r with
    | one => exact h.elim
    | two => exact h.elim
    | some r S =>
      refine ⟨part_to_lt (hp.at hf.1).1 _ _, ss_rise _, fun t ht => ?_⟩
      rw [mem_ss, List.mem_append] at ht
      rcases ht with ht | ht
      · obtain ⟨q, _, rfl⟩ := List.mem_map.mp ht
        exact part_to_lt (hp.at hf.2).1 _ _
      · split at ht
        · obtain rfl : t = 0 := by simpa using ht
          exact (hp.at hf.2).1.pos
        · simp at ht
theorem rooms_ok (n : Nat) : ∀ r ∈ (gr made row).rooms k n, okR k made row r := it_all (first_ok hp hf) (fun r t hr ht => by
  obtain ⟨a, _, rfl⟩ := List.mem_map.mp ht
  exact onw_ok hp hf hr a) n
omit hp hf in
theorem nr_one (i : Nat) : Rm.nr (.one i) = i := rfl
/-- rooms of rows that join none: no more than b or three -/
theorem rooms_few (hj : row.joint = false) (n : Nat) : ((gr made row).rooms k n).length ≤ max b 3 := by
  refine nodup_map_length (it_nodup n) Rm.nr (fun r hr => ?_) fun r hr s hs e => ?_
  · have h := rooms_ok hp hf n r hr
    cases row with
    | nothing => cases r <;> first | exact h.elim | (have h : _ < 1 := h; rw [nr_one]; omega)
    | blank => cases r <;> first | exact h.elim | (have h : _ < 2 := h; rw [nr_one]; omega)
    | letter a => cases r <;> first | exact h.elim | (have h : _ < 3 := h; rw [nr_one]; omega)
    | no i =>
      have := (hp.at hf).2
      cases r <;> first | exact h.elim | (have h : _ < (part made i).mv.length := h; rw [nr_one]; omega)
    | or => exact Bool.noConfusion hj
    | and => exact Bool.noConfusion hj
    | behind => exact Bool.noConfusion hj
  · have h := rooms_ok hp hf n r hr
    have h' := rooms_ok hp hf n s hs
    cases row <;> first | exact Bool.noConfusion hj | (cases r <;> cases s <;> first | exact h.elim | exact h'.elim | exact congrArg Rm.one e)
theorem closed_plain (hj : row.joint = false) (hb : b ≤ 400) : ((gr made row).rooms k far).length ≤ far := by
  have := rooms_few hp hf hj far
  unfold far at *
  omega
omit hp hf in
theorem rooms_stop {most : Nat} (hm : ((gr made row).rooms k most).length ≤ most) {n : Nat} (hn : most ≤ n) : (gr made row).rooms k n = (gr made row).rooms k most := it_stop hm hn
/-- where no more than most come up, they have all come up then -/
theorem closed_far {most : Nat} (hm : most ≤ 400) (hb : b ≤ 400) (ho : over k made most row = false) : ((gr made row).rooms k far).length ≤ far ∧ (row.joint = true → ((gr made row).rooms k most).length ≤ most ∧ (gr made row).rooms k far = (gr made row).rooms k most) := by
  by_cases hj : row.joint = true
  · have h1 : ((gr made row).rooms k most).length ≤ most := by
      unfold over at ho
      rw [hj, Bool.true_and] at ho
      have := of_decide_eq_false ho
      omega
    have h2 := rooms_stop (row := row) h1 (show most ≤ far by unfold far; omega)
    refine ⟨?_, fun _ => ⟨h1, h2⟩⟩
    rw [h2]
    unfold far
    omega
  · have hj : row.joint = false := by simpa using hj
    exact ⟨closed_plain hp hf hj hb, fun h => by rw [hj] at h; cases h⟩
/-- .. with another most too -/
theorem over_more {most : Nat} (hm : most ≤ 400) (ho : over k made most row = false) : over k made 400 row = false := by
  unfold over at ho ⊢
  cases hj : row.joint with
  | false => rfl
  | true =>
    rw [hj, Bool.true_and] at ho
    have h1 := of_decide_eq_false ho
    rw [Bool.true_and]
    refine decide_eq_false ?_
    rw [rooms_stop (row := row) (by omega) hm]
    omega
theorem raw_valid (hb : b ≤ 400) {most : Nat} (hm : most ≤ 400) (ho : over k made most row = false) : (rawM k made row).Valid k := by
  have hc := (closed_far hp hf hm hb ho).1
  cases row with
  | nothing => exact nothing_valid
  | blank => exact blank_valid
  | letter a => exact letter_valid
  | no i => exact not_valid (hp.at hf).1.toValid
  | or i j => exact Gr.mc_valid hc
  | and i j => exact Gr.mc_valid hc
  | behind i j => exact Gr.mc_valid hc
/-- what the law walks is that machine, told by the order in which rooms come up -/
theorem grown_renum (hb : b ≤ 400) {most : Nat} (hm : most ≤ 400) (ho : over k made most row = false) : grownM k made row = (rawM k made row).renum := by
  have hc := (closed_far hp hf hm hb ho).1
  have hv := raw_valid hp hf hb hm ho
  by_cases hj : row.joint = true
  · have e : rawM k made row = grownM k made row := by cases row <;> first | rfl | cases hj
    rw [e]
    exact (Gr.mc_renum hc).symm
  · have hj : row.joint = false := by simpa using hj
    -- rooms of one machine
    have go : ∀ (sc : ∀ r, r < (rawM k made row).mv.length → ((rawM k made row).succ r).map Rm.one = (gr made row).succ k (.one r)) (fy : ∀ r, r < (rawM k made row).mv.length → yesR made row (.one r) = (rawM k made row).y r) (f0 : firstR made row = .one 0), grownM k made row = (rawM k made row).renum := by
      intro sc fy f0
      have e1 := it_mapOn (succ := (rawM k made row).succ) (succ' := (gr made row).succ k) (a := 0) (f := Rm.one) (P := fun r => r < (rawM k made row).mv.length) hv.pos (fun _ _ _ ht => succ_lt hv ht) (fun x y _ _ e => by cases e; rfl) sc far
      have e2 : it (rawM k made row).succ 0 far = (rawM k made row).come := by
        refine come_any hv ?_
        have h1 := congrArg List.length e1
        rw [List.length_map] at h1
        rw [h1]
        have f0' : (gr made row).first = .one 0 := f0
        rw [← f0']
        exact hc
      have e3 : (gr made row).rooms k far = (rawM k made row).come.map Rm.one := by
        rw [← e2, e1]
        show it ((gr made row).succ k) (firstR made row) far = _
        rw [f0]
      have ix : ∀ t (l : List Nat), (l.map Rm.one).idxOf (.one t) = l.idxOf t := fun t l => by
        induction l with
        | nil => rfl
        | cons x l ih =>
          rw [List.map_cons, List.idxOf_cons, List.idxOf_cons, ih]
          have : (Rm.one x == Rm.one t) = (x == t) := by
            by_cases e : x = t
            · subst e; simp
            · have e' : ¬ Rm.one x = Rm.one t := fun z => e (by cases z; rfl)
              rw [beq_eq_false_iff_ne.mpr e, beq_eq_false_iff_ne.mpr e']
          rw [this]
      unfold grownM Gr.mc Mc.renum
      rw [e3, List.map_map, List.map_map]
      congr 1
      · refine List.map_congr_left fun r hr => ?_
        show ((gr made row).succ k (.one r)).map _ = _
        rw [← sc r (come_lt hv r hr), List.map_map]
        exact List.map_congr_left fun t _ => ix t _
      · exact List.map_congr_left fun r hr => fy r (come_lt hv r hr)
    have rep : ∀ (c : Nat) (f : Nat → Rm), (∀ a, f a = .one c) → (List.replicate k c).map Rm.one = (List.range k).map f := fun c f hf => by
      refine List.ext_getElem (by simp) fun i h1 h2 => ?_
      rw [List.getElem_map, List.getElem_map, List.getElem_replicate, hf]
    cases row with
    | nothing =>
      refine go (fun r hr => ?_) (fun r hr => ?_) rfl
      · have hr : r < 1 := hr
        obtain rfl : r = 0 := by omega
        exact rep 0 _ fun _ => rfl
      · have hr : r < 1 := hr
        obtain rfl : r = 0 := by omega
        rfl
    | blank =>
      refine go (fun r hr => ?_) (fun r hr => ?_) rfl
      · have hr : r < 2 := hr
        have hr : r = 0 ∨ r = 1 := by omega
        rcases hr with rfl | rfl <;> exact rep 1 _ fun _ => rfl
      · have hr : r < 2 := hr
        have hr : r = 0 ∨ r = 1 := by omega
        rcases hr with rfl | rfl <;> rfl
    | letter b =>
      refine go (fun r hr => ?_) (fun r hr => ?_) rfl
      · have hr : r < 3 := hr
        have hr : r = 0 ∨ r = 1 ∨ r = 2 := by omega
        rcases hr with rfl | rfl | rfl
        · show ((List.range k).map fun a => if a = b then 1 else 2).map Rm.one = (List.range k).map _
          rw [List.map_map]
          refine List.map_congr_left fun a _ => ?_
          show Rm.one (if a = b then 1 else 2) = if a = b then .one 1 else .one 2
          split <;> rfl
        · exact rep 2 _ fun _ => rfl
        · exact rep 2 _ fun _ => rfl
      · have hr : r < 3 := hr
        have hr : r = 0 ∨ r = 1 ∨ r = 2 := by omega
        rcases hr with rfl | rfl | rfl <;> rfl
    | no i =>
      have hm' := (hp.at hf).1
      refine go (fun r hr => ?_) (fun r hr => ?_) rfl
      · have hr : r < (part made i).mv.length := hr
        show ((part made i).succ r).map Rm.one = (List.range k).map fun a => Rm.one ((part made i).to r a)
        have hl := succ_len hm'.toValid hr
        refine List.ext_getElem (by simp [hl]) fun a h1 h2 => ?_
        rw [List.getElem_map, List.getElem_map, List.getElem_range]
        have ha : a < ((part made i).succ r).length := by simpa using h1
        unfold Mc.to
        rw [List.getD_eq_getElem?_getD, List.getElem?_eq_getElem ha]
        rfl
      · have hr : r < (part made i).mv.length := hr
        show (!(part made i).y r) = ((part made i).ys.map (!·)).getD r false
        have hr' : r < (part made i).ys.length := by rw [hm'.len]; exact hr
        unfold Mc.y
        rw [List.getD_eq_getElem?_getD, List.getD_eq_getElem?_getD, List.getElem?_map, List.getElem?_eq_getElem hr']
        rfl
    | or i j => exact Bool.noConfusion hj
    | and i j => exact Bool.noConfusion hj
    | behind i j => exact Bool.noConfusion hj
theorem row_canon (hb : b ≤ 400) {most : Nat} (hm : most ≤ 400) (ho : over k made most row = false) : (rowM k made row).Canon k := least_canon (raw_valid hp hf hb hm ho)
end
end Kw
set_option linter.all false
/-! Plain mathematics, part 5: what rows tell; stretches of a text. No program in sight. -/
namespace Kw
open Mc
abbrev Lang := List Nat → Prop
def lang (ahead : List Lang) (i : Nat) : Lang := ahead.getD i fun _ => False
def tellsR (ahead : List Lang) : Row → Lang
  | .nothing, _ => False
  | .blank, w => w = []
  | .letter a, w => w = [a]
  | .no i, w => ¬ lang ahead i w
  | .or i j, w => lang ahead i w ∨ lang ahead j w
  | .and i j, w => lang ahead i w ∧ lang ahead j w
  | .behind i j, w => ∃ u v, w = u ++ v ∧ lang ahead i u ∧ lang ahead j v
def langs : List Lang → List Row → List Lang
  | ahead, [] => ahead
  | ahead, row :: rows => langs (ahead ++ [tellsR ahead row]) rows
theorem langs_app : ∀ {rows more : List Row} {ahead : List Lang}, langs ahead (rows ++ more) = langs (langs ahead rows) more
  | [], _, _ => rfl
  | row :: rows, more, ahead => langs_app (rows := rows)
theorem langs_len : ∀ {rows : List Row} {ahead : List Lang}, (langs ahead rows).length = ahead.length + rows.length
  | [], _ => rfl
  | row :: rows, ahead => by
    rw [langs, langs_len (rows := rows), List.length_append, List.length_singleton, List.length_cons]
    omega
def Fits (k n : Nat) (rows : List Row) : Prop := ∀ (i : Nat) (row : Row), rows[i]? = some row → row.fits k (n + i)
theorem Fits.head {k n : Nat} {row : Row} {rows : List Row} (h : Fits k n (row :: rows)) : row.fits k n := h 0 row rfl
theorem Fits.tail {k n : Nat} {row : Row} {rows : List Row} (h : Fits k n (row :: rows)) : Fits k (n + 1) rows := fun i r e => by
  have := h (i + 1) r e
  rw [show n + 1 + i = n + (i + 1) by omega]
  exact this
def Ok (k : Nat) (w : List Nat) : Prop := ∀ a ∈ w, a < k
/-- the machines let by what is told -/
structure Agree (k : Nat) (made : List Mc) (ahead : List Lang) : Prop where
  len : made.length = ahead.length
  tell : ∀ i < made.length, ∀ w, Ok k w → ((part made i).acc w = true ↔ lang ahead i w)
section
variable {k b most : Nat} {made : List Mc} {ahead : List Lang} {row : Row}
theorem two_run (g : Gr Rm) (m1 m2 : Mc) (h : ∀ r s a, g.onw (.two r s) a = .two (m1.to r a) (m2.to s a)) : ∀ (w : List Nat) (r s : Nat), g.run (.two r s) w = .two (m1.run r w) (m2.run s w)
  | [], _, _ => rfl
  | a :: w, r, s => by
    show g.run (g.onw (.two r s) a) w = _
    rw [h]
    exact two_run g m1 m2 h w _ _
/-- the rooms of a behind: those of the second to which what is left leads -/
theorem some_run {m1 m2 : Mc} {g : Gr Rm} (hf : g.first = .some 0 (if m1.y 0 then [0] else [])) (h : ∀ r S a, g.onw (.some r S) a = .some (m1.to r a) (ss (S.map (fun t => m2.to t a) ++ if m1.y (m1.to r a) then [0] else []))) :
    ∀ (n : Nat) (w : List Nat), w.length = n → ∃ S, g.run g.first w = .some (m1.run 0 w) S ∧ ∀ t, t ∈ S ↔ ∃ u v, w = u ++ v ∧ m1.acc u = true ∧ t = m2.run 0 v := by
  intro n
  induction n with
  | zero =>
    intro w hw
    obtain rfl : w = [] := List.length_eq_zero_iff.mp hw
    refine ⟨_, hf, fun t => ?_⟩
    constructor
    · intro ht
      split at ht
      · rename_i y
        obtain rfl : t = 0 := by simpa using ht
        exact ⟨[], [], rfl, y, rfl⟩
      · simp at ht
    · rintro ⟨u, v, e, y, rfl⟩
      obtain ⟨rfl, rfl⟩ := List.append_eq_nil_iff.mp e.symm
      have y : m1.y 0 = true := y
      rw [if_pos y]
      exact List.mem_singleton.mpr rfl
  | succ n ih =>
    intro w hw
    obtain ⟨w', a, rfl⟩ : ∃ w' a, w = w' ++ [a] := by
      have hne : w ≠ [] := by
        intro e
        rw [e] at hw
        cases hw
      exact ⟨w.dropLast, w.getLast hne, (List.dropLast_concat_getLast hne).symm⟩
    rw [List.length_append, List.length_singleton] at hw
    obtain ⟨S, e1, e2⟩ := ih w' (by omega)
    refine ⟨ss (S.map (fun t => m2.to t a) ++ if m1.y (m1.to (m1.run 0 w') a) then [0] else []), ?_, fun t => ?_⟩
    · have er : g.run g.first (w' ++ [a]) = g.onw (g.run g.first w') a := by
        unfold Gr.run
        rw [List.foldl_append]
        rfl
      rw [er, e1, h, run_app]
      rfl
    · have y1 : m1.acc (w' ++ [a]) = m1.y (m1.to (m1.run 0 w') a) := by
        unfold Mc.acc
        rw [run_app]
        rfl
      rw [mem_ss, List.mem_append, List.mem_map]
      constructor
      · rintro (⟨s, hs, rfl⟩ | ht)
        · obtain ⟨u, v, rfl, y, rfl⟩ := (e2 s).mp hs
          refine ⟨u, v ++ [a], List.append_assoc .., y, ?_⟩
          rw [run_app]
          rfl
        · split at ht
          · rename_i y
            obtain rfl : t = 0 := by simpa using ht
            exact ⟨w' ++ [a], [], by simp, by rw [y1]; exact y, rfl⟩
          · simp at ht
      · rintro ⟨u, v, e, y, rfl⟩
        rcases List.eq_nil_or_concat v with rfl | ⟨v', c, rfl⟩
        · right
          rw [List.append_nil] at e
          rw [← e, y1] at y
          rw [if_pos y]
          exact List.mem_singleton.mpr rfl
        · left
          rw [List.concat_eq_append, ← List.append_assoc] at e
          have e' := List.append_inj' e rfl
          obtain ⟨rfl, e3⟩ := e'
          obtain rfl : a = c := by simpa using e3
          refine ⟨m2.run 0 v', (e2 _).mpr ⟨u, v', rfl, y, rfl⟩, ?_⟩
          rw [List.concat_eq_append, run_app]
          rfl
theorem letter_run {a c : Nat} (hk : a < k) (w : List Nat) (hw : Ok k w) : (rawM k made (.letter c)).acc w = true ↔ w = [c] := by
  have t0 : ∀ x, x < k → (rawM k made (.letter c)).to 0 x = if x = c then 1 else 2 := fun x hx => by
    show ((List.range k).map fun a => if a = c then 1 else 2).getD x 0 = _
    rw [List.getD_eq_getElem?_getD, List.getElem?_map, List.getElem?_range hx]
    rfl
  have t1 : ∀ x, x < k → (rawM k made (.letter c)).to 1 x = 2 := fun x hx => by
    show (List.replicate k 2).getD x 0 = 2
    rw [List.getD_eq_getElem?_getD, List.getElem?_replicate, if_pos hx]
    rfl
  have t2 : ∀ x, x < k → (rawM k made (.letter c)).to 2 x = 2 := fun x hx => by
    show (List.replicate k 2).getD x 0 = 2
    rw [List.getD_eq_getElem?_getD, List.getElem?_replicate, if_pos hx]
    rfl
  have lost : ∀ (w : List Nat), Ok k w → (rawM k made (.letter c)).run 2 w = 2 := fun w => by
    induction w with
    | nil => intro _; rfl
    | cons x w ih =>
      intro h
      rw [run_cons, t2 x (h x List.mem_cons_self)]
      exact ih fun y hy => h y (List.mem_cons_of_mem _ hy)
  cases w with
  | nil => exact ⟨fun h => Bool.noConfusion (show false = true from h), fun h => by cases h⟩
  | cons x w =>
    have hx := hw x List.mem_cons_self
    have hw' : Ok k w := fun y hy => hw y (List.mem_cons_of_mem _ hy)
    unfold Mc.acc
    rw [run_cons, t0 x hx]
    by_cases e : x = c
    · subst e
      rw [if_pos rfl]
      cases w with
      | nil => exact ⟨fun _ => rfl, fun _ => rfl⟩
      | cons z w =>
        rw [run_cons, t1 z (hw' z List.mem_cons_self), lost w fun y hy => hw' y (List.mem_cons_of_mem _ hy)]
        exact ⟨fun h => Bool.noConfusion (show false = true from h), fun h => by cases h⟩
    · rw [if_neg e, lost w hw']
      exact ⟨fun h => Bool.noConfusion (show false = true from h), fun h => by cases h; exact absurd rfl e⟩
section
variable (hp : Kw.Parts k b made) (hf : row.fits k made.length) (hg : Agree k made ahead)
include hp hf hg
theorem raw_tells (hk : 0 < k) (hb : b ≤ 400) (hm : most ≤ 400) (ho : over k made most row = false) {w : List Nat} (hw : Ok k w) : (rawM k made row).acc w = true ↔ tellsR ahead row w := by
  have hc := (closed_far hp hf hm hb ho).1
  cases row with
  | nothing =>
    have lost : ∀ (w : List Nat), (rawM k made .nothing).acc w = false := fun w => by
      have hv := nothing_valid (k := k) (made := made)
      have h := run_lt hv w hv.pos
      have h : (rawM k made .nothing).run 0 w < 1 := h
      unfold Mc.acc
      have : (rawM k made .nothing).run 0 w = 0 := by omega
      rw [this]
      rfl
    rw [lost w]
    exact ⟨fun h => Bool.noConfusion h, fun h => h.elim⟩
  | blank =>
    have away : ∀ (w : List Nat) (r : Nat), r < 2 → Ok k w → w ≠ [] → (rawM k made .blank).run r w = 1 := fun w => by
      induction w with
      | nil => intro _ _ _ h; exact absurd rfl h
      | cons x w ih =>
        intro r hr h _
        have e : (rawM k made .blank).to r x = 1 := by
          have hx := h x List.mem_cons_self
          have hr : r = 0 ∨ r = 1 := by omega
          rcases hr with rfl | rfl
          · show (List.replicate k 1).getD x 0 = 1
            rw [List.getD_eq_getElem?_getD, List.getElem?_replicate, if_pos hx]
            rfl
          · show (List.replicate k 1).getD x 0 = 1
            rw [List.getD_eq_getElem?_getD, List.getElem?_replicate, if_pos hx]
            rfl
        rw [run_cons, e]
        cases w with
        | nil => rfl
        | cons y w => exact ih 1 (by omega) (fun y hy => h y (List.mem_cons_of_mem _ hy)) (by simp)
    cases w with
    | nil => exact ⟨fun _ => rfl, fun _ => rfl⟩
    | cons x w =>
      unfold Mc.acc
      rw [away (x :: w) 0 (by omega) hw (by simp)]
      exact ⟨fun h => Bool.noConfusion (show false = true from h), fun h => by cases h⟩
  | letter a => exact letter_run hf w hw
  | no i =>
    have h := hg.tell i hf w hw
    have hm' := (hp.at hf).1
    have run_eq : ∀ (w : List Nat) (r : Nat), (rawM k made (.no i)).run r w = (part made i).run r w := fun w => by
      induction w with
      | nil => intro r; rfl
      | cons a w ih => intro r; exact ih _
    have e : (rawM k made (.no i)).acc w = !(part made i).acc w := by
      unfold Mc.acc
      rw [run_eq]
      have hr := run_lt hm'.toValid w hm'.pos
      show ((part made i).ys.map (!·)).getD _ false = !((part made i).ys.getD _ false)
      have hr' : (part made i).run 0 w < (part made i).ys.length := by rw [hm'.len]; exact hr
      rw [List.getD_eq_getElem?_getD, List.getD_eq_getElem?_getD, List.getElem?_map, List.getElem?_eq_getElem hr']
      rfl
    rw [e]
    show _ ↔ ¬ lang ahead i w
    rw [← h]
    cases (part made i).acc w <;> simp
  | or i j =>
    have h1 := hg.tell i hf.1 w hw
    have h2 := hg.tell j hf.2 w hw
    have e : (rawM k made (.or i j)).acc w = ((part made i).acc w || (part made j).acc w) := by
      refine (Gr.mc_acc hc hw).trans ?_
      show yesR made (.or i j) ((gr made (.or i j)).run (.two 0 0) w) = _
      rw [two_run (gr made (.or i j)) (part made i) (part made j) (fun _ _ _ => rfl)]
      rfl
    rw [e, Bool.or_eq_true]
    exact or_congr h1 h2
  | and i j =>
    have h1 := hg.tell i hf.1 w hw
    have h2 := hg.tell j hf.2 w hw
    have e : (rawM k made (.and i j)).acc w = ((part made i).acc w && (part made j).acc w) := by
      refine (Gr.mc_acc hc hw).trans ?_
      show yesR made (.and i j) ((gr made (.and i j)).run (.two 0 0) w) = _
      rw [two_run (gr made (.and i j)) (part made i) (part made j) (fun _ _ _ => rfl)]
      rfl
    rw [e, Bool.and_eq_true]
    exact and_congr h1 h2
  | behind i j =>
    obtain ⟨S, e1, e2⟩ := some_run (g := gr made (.behind i j)) (m1 := part made i) (m2 := part made j) rfl (fun _ _ _ => rfl) w.length w rfl
    have e : (rawM k made (.behind i j)).acc w = S.any (part made j).y := by
      refine (Gr.mc_acc hc hw).trans ?_
      show yesR made (.behind i j) ((gr made (.behind i j)).run (gr made (.behind i j)).first w) = _
      rw [e1]
      rfl
    rw [e, List.any_eq_true]
    constructor
    · rintro ⟨t, ht, y⟩
      obtain ⟨u, v, rfl, yu, rfl⟩ := (e2 t).mp ht
      exact ⟨u, v, rfl, (hg.tell i hf.1 u fun a ha => hw a (List.mem_append_left _ ha)).mp yu, (hg.tell j hf.2 v fun a ha => hw a (List.mem_append_right _ ha)).mp y⟩
    · rintro ⟨u, v, rfl, hu, hv⟩
      refine ⟨_, (e2 _).mpr ⟨u, v, rfl, (hg.tell i hf.1 u fun a ha => hw a (List.mem_append_left _ ha)).mpr hu, rfl⟩, ?_⟩
      exact (hg.tell j hf.2 v fun a ha => hw a (List.mem_append_right _ ha)).mpr hv
theorem row_tells (hk : 0 < k) (hb : b ≤ 400) (hm : most ≤ 400) (ho : over k made most row = false) {w : List Nat} (hw : Ok k w) : (rowM k made row).acc w = true ↔ tellsR ahead row w := by
  unfold rowM
  rw [acc_least (raw_valid hp hf hb hm ho)]
  exact raw_tells hp hf hg hk hb hm ho hw
end
theorem least_le {m : Mc} (hv : m.Valid k) : m.least.mv.length ≤ m.mv.length := by
  unfold Mc.least
  rw [least_n hv]
  have h1 : (m.firsts (cls m)).length = card (m.come.map (cls m)) := by
    have := congrArg List.length (firstsOf_map (cls m) m.come)
    rw [List.length_map] at this
    exact this
  rw [h1]
  have h2 := Kw.card_le (m.come.map (cls m))
  rw [List.length_map] at h2
  have h3 := come_len hv
  omega
theorem row_few (hp : Kw.Parts k b made) (hf : row.fits k made.length) (hb3 : 3 ≤ b) (hb : b ≤ 400) (hmb : most ≤ b) (ho : over k made most row = false) : (rowM k made row).mv.length ≤ b := by
  have hm : most ≤ 400 := by omega
  have h := least_le (raw_valid hp hf hb hm ho)
  have hc := closed_far hp hf hm hb ho
  refine Nat.le_trans h ?_
  have joint : row.joint = true → ((gr made row).rooms k far).length ≤ b := fun hj => by
    obtain ⟨h1, h2⟩ := hc.2 hj
    rw [h2]
    omega
  cases row with
  | nothing => show 1 ≤ b; omega
  | blank => show 2 ≤ b; omega
  | letter a => exact hb3
  | no i => exact (hp.at hf).2
  | or i j => exact Nat.le_trans (Nat.le_of_eq Gr.mc_len) (joint rfl)
  | and i j => exact Nat.le_trans (Nat.le_of_eq Gr.mc_len) (joint rfl)
  | behind i j => exact Nat.le_trans (Nat.le_of_eq Gr.mc_len) (joint rfl)
theorem part_snoc {m : Mc} {i : Nat} : part (made ++ [m]) i = if i < made.length then part made i else if i = made.length then m else mk0 := by
  unfold part
  rw [List.getD_eq_getElem?_getD, List.getD_eq_getElem?_getD]
  by_cases h : i < made.length
  · rw [if_pos h, List.getElem?_append_left h]
  · rw [if_neg h, List.getElem?_append_right (by omega)]
    by_cases e : i = made.length
    · rw [if_pos e, e, Nat.sub_self]
      rfl
    · rw [if_neg e, List.getElem?_eq_none (by simp; omega)]
      rfl
theorem lang_snoc {L : Lang} {i : Nat} (h : i < ahead.length) : lang (ahead ++ [L]) i = lang ahead i := by
  unfold lang
  rw [List.getD_eq_getElem?_getD, List.getD_eq_getElem?_getD, List.getElem?_append_left h]
theorem lang_last {L : Lang} : lang (ahead ++ [L]) ahead.length = L := by
  unfold lang
  rw [List.getD_eq_getElem?_getD, List.getElem?_append_right (Nat.le_refl _), Nat.sub_self]
  rfl
theorem step_some {m : Mc} (h : stepR k made most row = some m) : over k made most row = false ∧ m = rowM k made row := by
  unfold stepR at h
  split at h
  · cases h
  · rename_i ho
    exact ⟨by simpa using ho, (Option.some.inj h).symm⟩
theorem step_none (h : stepR k made most row = none) : over k made most row = true := by
  unfold stepR at h
  split at h
  · assumption
  · cases h
theorem Parts.snoc {m : Mc} (hp : Kw.Parts k b made) (h : m.Canon k) (hl : m.mv.length ≤ b) : Kw.Parts k b (made ++ [m]) := fun x hx => by
  rcases List.mem_append.mp hx with q | q
  · exact hp x q
  · obtain rfl : x = m := by simpa using q
    exact ⟨h, hl⟩
theorem step_parts {m : Mc} (hp : Kw.Parts k b made) (hf : row.fits k made.length) (hb3 : 3 ≤ b) (hb : b ≤ 400) (hmb : most ≤ b) (h : stepR k made most row = some m) : Kw.Parts k b (made ++ [m]) := by
  obtain ⟨ho, rfl⟩ := step_some h
  exact hp.snoc (row_canon hp hf hb (by omega) ho) (row_few hp hf hb3 hb hmb ho)
theorem step_agree {m : Mc} (hp : Kw.Parts k b made) (hg : Agree k made ahead) (hf : row.fits k made.length) (hk : 0 < k) (hb : b ≤ 400) (hm : most ≤ 400) (h : stepR k made most row = some m) : Agree k (made ++ [m]) (ahead ++ [tellsR ahead row]) := by
  obtain ⟨ho, rfl⟩ := step_some h
  refine ⟨by simp [hg.len], fun i hi w hw => ?_⟩
  rw [List.length_append, List.length_singleton] at hi
  rw [part_snoc]
  by_cases q : i < made.length
  · rw [if_pos q, lang_snoc (by rw [← hg.len]; exact q)]
    exact hg.tell i q w hw
  · obtain rfl : i = made.length := by omega
    rw [if_neg q, if_pos rfl, hg.len, lang_last]
    exact row_tells hp hf hg hk hb hm ho hw
/-- with another most, as far as none was refused -/
theorem step_more {m : Mc} (hp : Kw.Parts k b made) (hf : row.fits k made.length) (hb : b ≤ 400) (hm : most ≤ 400) (h : stepR k made most row = some m) : stepR k made 400 row = some m := by
  obtain ⟨ho, rfl⟩ := step_some h
  unfold stepR
  rw [over_more hp hf hm ho]
  rfl
end
theorem build_parts {k b most : Nat} (hb3 : 3 ≤ b) (hb : b ≤ 400) (hmb : most ≤ b) : ∀ {rows : List Row} {made ms : List Mc}, Kw.Parts k b made → Fits k made.length rows → build k most made rows = .ok ms → Kw.Parts k b ms
  | [], made, ms, hp, _, h => by cases h; exact hp
  | row :: rows, made, ms, hp, hf, h => by
    rw [build] at h
    cases e : stepR k made most row with
    | none => rw [e] at h; cases h
    | some m =>
      rw [e] at h
      refine build_parts hb3 hb hmb (step_parts hp hf.head hb3 hb hmb e) ?_ h
      rw [List.length_append]
      exact hf.tail
theorem build_agree {k b most : Nat} (hk : 0 < k) (hb3 : 3 ≤ b) (hb : b ≤ 400) (hmb : most ≤ b) : ∀ {rows : List Row} {made ms : List Mc} {ahead : List Lang}, Kw.Parts k b made → Agree k made ahead → Fits k made.length rows → build k most made rows = .ok ms → Agree k ms (langs ahead rows)
  | [], made, ms, ahead, _, hg, _, h => by cases h; exact hg
  | row :: rows, made, ms, ahead, hp, hg, hf, h => by
    rw [build] at h
    cases e : stepR k made most row with
    | none => rw [e] at h; cases h
    | some m =>
      rw [e] at h
      show Agree k ms (langs (ahead ++ [tellsR ahead row]) rows)
      refine build_agree hk hb3 hb hmb (step_parts hp hf.head hb3 hb hmb e) (step_agree hp hg hf.head hk hb (by omega) e) ?_ h
      rw [List.length_append]
      exact hf.tail
theorem build_more {k b most : Nat} (hb3 : 3 ≤ b) (hb : b ≤ 400) (hmb : most ≤ b) : ∀ {rows : List Row} {made ms : List Mc}, Kw.Parts k b made → Fits k made.length rows → build k most made rows = .ok ms → build k 400 made rows = .ok ms
  | [], made, ms, _, _, h => by cases h; rfl
  | row :: rows, made, ms, hp, hf, h => by
    rw [build] at h ⊢
    cases e : stepR k made most row with
    | none => rw [e] at h; cases h
    | some m =>
      rw [e] at h
      rw [step_more hp hf.head hb (by omega) e]
      refine build_more hb3 hb hmb (step_parts hp hf.head hb3 hb hmb e) ?_ h
      rw [List.length_append]
      exact hf.tail

/-! ### stretches of a text -/
def seg (W : List Nat) (i j : Nat) : List Nat := (W.take j).drop i
theorem seg_len {W : List Nat} {i j : Nat} (h2 : j ≤ W.length) : (seg W i j).length = j - i := by
  unfold seg
  rw [List.length_drop, List.length_take]
  omega
theorem seg_all {W : List Nat} : seg W 0 W.length = W := by
  unfold seg
  rw [List.take_length, List.drop_zero]
theorem seg_app {W : List Nat} {i j l : Nat} (h1 : i ≤ j) (h2 : j ≤ l) (h3 : l ≤ W.length) : seg W i l = seg W i j ++ seg W j l := by
  unfold seg
  have e : W.take l = W.take j ++ (W.take l).drop j := by
    have := (List.take_append_drop j (W.take l)).symm
    rw [List.take_take, Nat.min_eq_left h2] at this
    exact this
  have e2 : (W.take l).drop i = (W.take j ++ (W.take l).drop j).drop i := congrArg (List.drop i) e
  rw [e2, List.drop_append_of_le_length (by rw [List.length_take]; omega)]
theorem seg_ok {k : Nat} {W : List Nat} {i j : Nat} (h : Ok k W) : Ok k (seg W i j) := fun a ha => h a (List.mem_of_mem_take (List.mem_of_mem_drop ha))
/-- a stretch is told by a behind where it falls into two -/
theorem seg_behind {W : List Nat} {i l : Nat} (h1 : i ≤ l) (h2 : l ≤ W.length) {A B : Lang} : (∃ u v, seg W i l = u ++ v ∧ A u ∧ B v) ↔ ∃ j, i ≤ j ∧ j ≤ l ∧ A (seg W i j) ∧ B (seg W j l) := by
  constructor
  · rintro ⟨u, v, e, ha, hb⟩
    have hl := congrArg List.length e
    rw [seg_len h2, List.length_append] at hl
    have e2 := seg_app (W := W) (i := i) (j := i + u.length) (l := l) (by omega) (by omega) h2
    rw [e] at e2
    have e3 := List.append_inj e2 (by rw [seg_len (by omega)]; omega)
    exact ⟨i + u.length, by omega, by omega, by rw [← e3.1]; exact ha, by rw [← e3.2]; exact hb⟩
  · rintro ⟨j, a, c, ha, hb⟩
    exact ⟨_, _, seg_app a c h2, ha, hb⟩
theorem seg_nil {W : List Nat} {i j : Nat} (h1 : i ≤ j) (h2 : j ≤ W.length) : seg W i j = [] ↔ i = j := by
  constructor
  · intro e
    have := congrArg List.length e
    rw [seg_len h2] at this
    simp at this
    omega
  · rintro rfl
    exact List.length_eq_zero_iff.mp (by rw [seg_len h2]; omega)
end Kw
set_option Elab.async false
set_option linter.all false
set_option maxRecDepth 100000
set_option maxHeartbeats 4000000
/-! The statements of the top by names, the names of each def by slots. Printed by gen_base.py. -/
namespace Cw
open PySem PySem.Spec PyProof.Rows L2
def topS (i : Nat) : Stmt := PySem.Challenge.pw_calmword_k23_whole_machines_tell_the_sam.main.body.getD i (.Pass ⟨0, 0, 0, 0⟩)
abbrev sCalmError : Stmt := topS 1
abbrev sOtherLetters : Stmt := topS 2
abbrev sOtherLettersI : Stmt := inClass sOtherLetters 0
theorem scOtherLettersI : FnScope ["self"] ["self"] (defScope sOtherLettersI) := ⟨rfl, rfl, rfl, by decide +kernel, rfl, by decide +kernel, by decide +kernel⟩
abbrev sTooMany : Stmt := topS 3
abbrev sTooManyI : Stmt := inClass sTooMany 0
theorem scTooManyI : FnScope ["self", "at"] ["self", "at"] (defScope sTooManyI) := ⟨rfl, rfl, rfl, by decide +kernel, rfl, by decide +kernel, by decide +kernel⟩
abbrev sGrown : Stmt := topS 5
abbrev nGrown : List Str := ["first", "many", "onward", "is_yes", "most", "numbers", "rooms", "moves", "room", "row", "k", "to"]
theorem scGrown : FnScope nGrown ["first", "many", "onward", "is_yes", "most"] (defScope sGrown) := ⟨rfl, rfl, rfl, by decide +kernel, rfl, by decide +kernel, by decide +kernel⟩
abbrev sCome : Stmt := topS 6
abbrev nCome : List Str := ["moves", "found", "rooms", "at", "to"]
theorem scCome : FnScope nCome ["moves"] (defScope sCome) := ⟨rfl, rfl, rfl, by decide +kernel, rfl, by decide +kernel, by decide +kernel⟩
abbrev sParted : Stmt := topS 7
abbrev nParted : List Str := ["moves", "yes", "rooms", "room", "classes", "many", "seen", "further", "key", "to"]
theorem scParted : FnScope nParted ["moves", "yes", "rooms"] (defScope sParted) := ⟨rfl, rfl, rfl, by decide +kernel, rfl, by decide +kernel, by decide +kernel⟩
abbrev sLeastOf : Stmt := topS 8
abbrev nLeastOf : List Str := ["moves", "yes", "rooms", "classes", "numbers", "firsts", "room", "rows", "to"]
theorem scLeastOf : FnScope nLeastOf ["moves", "yes"] (defScope sLeastOf) := ⟨rfl, rfl, rfl, by decide +kernel, rfl, by decide +kernel, by decide +kernel⟩
abbrev sLeast : Stmt := topS 9
abbrev nLeast : List Str := ["machine", "letters", "moves", "yes", "rows", "truths"]
theorem scLeast : FnScope nLeast ["machine"] (defScope sLeast) := ⟨rfl, rfl, rfl, by decide +kernel, rfl, by decide +kernel, by decide +kernel⟩
abbrev sNoOf : Stmt := topS 11
abbrev nNoOf : List Str := ["machine", "letters", "moves", "yes", "one"]
theorem scNoOf : FnScope nNoOf ["machine"] (defScope sNoOf) := ⟨rfl, rfl, rfl, by decide +kernel, rfl, by decide +kernel, by decide +kernel⟩
abbrev sCheck : Stmt := topS 12
abbrev nCheck : List Str := ["one", "other"]
theorem scCheck : FnScope nCheck ["one", "other"] (defScope sCheck) := ⟨rfl, rfl, rfl, by decide +kernel, rfl, by decide +kernel, by decide +kernel⟩
abbrev sMRooms : Stmt := topS 13
abbrev nMRooms : List Str := ["letters", "grown", "moves", "yes"]
theorem scMRooms : FnScope nMRooms ["letters", "grown"] (defScope sMRooms) := ⟨rfl, rfl, rfl, by decide +kernel, rfl, by decide +kernel, by decide +kernel⟩
abbrev sPaired : Stmt := topS 14
abbrev nPaired : List Str := ["one", "other", "most", "is_either", "letters", "others", "onward", "is_yes", "moves", "other_moves", "other_yes", "yes"]
theorem scPaired : FnScope nPaired ["one", "other", "most", "is_either"] (defScope sPaired) := ⟨rfl, rfl, rfl, by decide +kernel, rfl, by decide +kernel, by decide +kernel⟩
abbrev sBoth : Stmt := topS 15
abbrev nBoth : List Str := ["one", "other", "most"]
theorem scBoth : FnScope nBoth ["one", "other", "most"] (defScope sBoth) := ⟨rfl, rfl, rfl, by decide +kernel, rfl, by decide +kernel, by decide +kernel⟩
abbrev sEither : Stmt := topS 16
abbrev nEither : List Str := ["one", "other", "most"]
theorem scEither : FnScope nEither ["one", "other", "most"] (defScope sEither) := ⟨rfl, rfl, rfl, by decide +kernel, rfl, by decide +kernel, by decide +kernel⟩
abbrev sBehind : Stmt := topS 18
abbrev nBehind : List Str := ["one", "other", "most", "letters", "others", "onward", "is_yes", "moves", "other_moves", "other_yes", "room_of", "yes"]
theorem scBehind : FnScope nBehind ["one", "other", "most"] (defScope sBehind) := ⟨rfl, rfl, rfl, by decide +kernel, rfl, by decide +kernel, by decide +kernel⟩
abbrev sPlain : Stmt := topS 20
abbrev nPlain : List Str := ["letters", "row", "stay", "away", "on", "lost", "sign"]
theorem scPlain : FnScope nPlain ["letters", "row"] (defScope sPlain) := ⟨rfl, rfl, rfl, by decide +kernel, rfl, by decide +kernel, by decide +kernel⟩
abbrev sRowM : Stmt := topS 21
abbrev nRowM : List Str := ["letters", "row", "made", "most"]
theorem scRowM : FnScope nRowM ["letters", "row", "made", "most"] (defScope sRowM) := ⟨rfl, rfl, rfl, by decide +kernel, rfl, by decide +kernel, by decide +kernel⟩
abbrev sMOf : Stmt := topS 22
abbrev nMOf : List Str := ["letters", "expression", "most", "made", "at", "row", "machine"]
theorem scMOf : FnScope nMOf ["letters", "expression", "most"] (defScope sMOf) := ⟨rfl, rfl, rfl, by decide +kernel, rfl, by decide +kernel, by decide +kernel⟩
abbrev sLBox : Stmt := topS 24
abbrev nLBox : List Str := ["_law_script", "_law_k", "_law_cell", "_law_seed"]
theorem scLBox : FnScope nLBox ["_law_script", "_law_k"] (defScope sLBox) := ⟨rfl, rfl, rfl, by decide +kernel, rfl, by decide +kernel, by decide +kernel⟩
abbrev sLTake : Stmt := topS 25
abbrev nLTake : List Str := ["_law_box_here", "_law_wide", "_law_digit", "_law_one"]
theorem scLTake : FnScope nLTake ["_law_box_here", "_law_wide"] (defScope sLTake) := ⟨rfl, rfl, rfl, by decide +kernel, rfl, by decide +kernel, by decide +kernel⟩
abbrev sLLetters : Stmt := topS 26
abbrev nLLetters : List Str := ["_law_box_here", "_law_most", "_law_pool", "_law_found", "_law_k"]
theorem scLLetters : FnScope nLLetters ["_law_box_here", "_law_most"] (defScope sLLetters) := ⟨rfl, rfl, rfl, by decide +kernel, rfl, by decide +kernel, by decide +kernel⟩
abbrev sLText : Stmt := topS 27
abbrev nLText : List Str := ["_law_box_here", "_law_letters_here", "_law_most", "_law_k"]
theorem scLText : FnScope nLText ["_law_box_here", "_law_letters_here", "_law_most"] (defScope sLText) := ⟨rfl, rfl, rfl, by decide +kernel, rfl, by decide +kernel, by decide +kernel⟩
abbrev sLRowAt : Stmt := topS 28
abbrev nLRowAt : List Str := ["_law_box_here", "_law_k"]
theorem scLRowAt : FnScope nLRowAt ["_law_box_here", "_law_k"] (defScope sLRowAt) := ⟨rfl, rfl, rfl, by decide +kernel, rfl, by decide +kernel, by decide +kernel⟩
abbrev sLExpression : Stmt := topS 29
abbrev nLExpression : List Str := ["_law_box_here", "_law_letters_here", "_law_most", "_law_rows", "_law_k", "_law_kind", "_law_base", "_law_word"]
theorem scLExpression : FnScope nLExpression ["_law_box_here", "_law_letters_here", "_law_most"] (defScope sLExpression) := ⟨rfl, rfl, rfl, by decide +kernel, rfl, by decide +kernel, by decide +kernel⟩
abbrev sLToldRows : Stmt := topS 30
abbrev nLToldRows : List Str := ["_law_expression_here", "_law_text_here", "_law_found", "_law_spans", "_law_i", "_law_j", "_law_row", "_law_some", "_law_span", "_law_k"]
theorem scLToldRows : FnScope nLToldRows ["_law_expression_here", "_law_text_here"] (defScope sLToldRows) := ⟨rfl, rfl, rfl, by decide +kernel, rfl, by decide +kernel, by decide +kernel⟩
abbrev sLTells : Stmt := topS 31
abbrev nLTells : List Str := ["_law_expression_here", "_law_text_here"]
theorem scLTells : FnScope nLTells ["_law_expression_here", "_law_text_here"] (defScope sLTells) := ⟨rfl, rfl, rfl, by decide +kernel, rfl, by decide +kernel, by decide +kernel⟩
abbrev sLLed : Stmt := topS 32
abbrev nLLed : List Str := ["_law_machine", "_law_room", "_law_text_here", "_law_letter"]
theorem scLLed : FnScope nLLed ["_law_machine", "_law_room", "_law_text_here"] (defScope sLLed) := ⟨rfl, rfl, rfl, by decide +kernel, rfl, by decide +kernel, by decide +kernel⟩
abbrev sLLets : Stmt := topS 33
abbrev nLLets : List Str := ["_law_machine", "_law_text_here"]
theorem scLLets : FnScope nLLets ["_law_machine", "_law_text_here"] (defScope sLLets) := ⟨rfl, rfl, rfl, by decide +kernel, rfl, by decide +kernel, by decide +kernel⟩
abbrev sLNumbered : Stmt := topS 34
abbrev nLNumbered : List Str := ["_law_letters_here", "_law_moves", "_law_yes", "_law_order", "_law_at", "_law_goal", "_law_rows", "_law_room"]
theorem scLNumbered : FnScope nLNumbered ["_law_letters_here", "_law_moves", "_law_yes"] (defScope sLNumbered) := ⟨rfl, rfl, rfl, by decide +kernel, rfl, by decide +kernel, by decide +kernel⟩
abbrev sLLeast : Stmt := topS 35
abbrev nLLeast : List Str := ["_law_machine", "_law_letters_here", "_law_moves", "_law_yes", "_law_one", "_law_classes", "_law_many", "_law_keys", "_law_room", "_law_some", "_law_firsts", "_law_begin", "_law_order", "_law_rows", "_law_goal", "_law_key"]
theorem scLLeast : FnScope nLLeast ["_law_machine"] (defScope sLLeast) := ⟨rfl, rfl, rfl, by decide +kernel, rfl, by decide +kernel, by decide +kernel⟩
abbrev sLFirst : Stmt := topS 36
abbrev nLFirst : List Str := ["_law_row", "_law_made_here"]
theorem scLFirst : FnScope nLFirst ["_law_row", "_law_made_here"] (defScope sLFirst) := ⟨rfl, rfl, rfl, by decide +kernel, rfl, by decide +kernel, by decide +kernel⟩
abbrev sLOnward : Stmt := topS 37
abbrev nLOnward : List Str := ["_law_letters_here", "_law_row", "_law_made_here", "_law_room", "_law_k", "_law_moves", "_law_others", "_law_here", "_law_there", "_law_spot"]
theorem scLOnward : FnScope nLOnward ["_law_letters_here", "_law_row", "_law_made_here", "_law_room", "_law_k"] (defScope sLOnward) := ⟨rfl, rfl, rfl, by decide +kernel, rfl, by decide +kernel, by decide +kernel⟩
abbrev sLHasYes : Stmt := topS 38
abbrev nLHasYes : List Str := ["_law_row", "_law_made_here", "_law_room", "_law_yes", "_law_others", "_law_spot"]
theorem scLHasYes : FnScope nLHasYes ["_law_row", "_law_made_here", "_law_room"] (defScope sLHasYes) := ⟨rfl, rfl, rfl, by decide +kernel, rfl, by decide +kernel, by decide +kernel⟩
abbrev sLGrown : Stmt := topS 39
abbrev nLGrown : List Str := ["_law_letters_here", "_law_row", "_law_made_here", "_law_most", "_law_order", "_law_numbers", "_law_moves", "_law_goals", "_law_k", "_law_room"]
theorem scLGrown : FnScope nLGrown ["_law_letters_here", "_law_row", "_law_made_here", "_law_most"] (defScope sLGrown) := ⟨rfl, rfl, rfl, by decide +kernel, rfl, by decide +kernel, by decide +kernel⟩
abbrev sLMade : Stmt := topS 40
abbrev nLMade : List Str := ["_law_letters_here", "_law_rows", "_law_most", "_law_found", "e"]
theorem scLMade : FnScope nLMade ["_law_letters_here", "_law_rows", "_law_most"] (defScope sLMade) := ⟨rfl, rfl, rfl, by decide +kernel, rfl, by decide +kernel, by decide +kernel⟩
abbrev sLRefusedAt : Stmt := topS 41
abbrev nLRefusedAt : List Str := ["_law_found", "_law_at"]
theorem scLRefusedAt : FnScope nLRefusedAt ["_law_found", "_law_at"] (defScope sLRefusedAt) := ⟨rfl, rfl, rfl, by decide +kernel, rfl, by decide +kernel, by decide +kernel⟩
abbrev sLIsMachine : Stmt := topS 42
abbrev nLIsMachine : List Str := ["_law_machine", "_law_letters_here", "_law_moves", "_law_yes", "_law_row", "_law_goal", "_law_one"]
theorem scLIsMachine : FnScope nLIsMachine ["_law_machine", "_law_letters_here"] (defScope sLIsMachine) := ⟨rfl, rfl, rfl, by decide +kernel, rfl, by decide +kernel, by decide +kernel⟩
abbrev sLAlike : Stmt := topS 43
abbrev nLAlike : List Str := ["_law_machine", "_law_grown_here", "_law_ones", "_law_room", "_law_k", "_law_goal", "_law_mine"]
theorem scLAlike : FnScope nLAlike ["_law_machine", "_law_grown_here"] (defScope sLAlike) := ⟨rfl, rfl, rfl, by decide +kernel, rfl, by decide +kernel, by decide +kernel⟩
abbrev sLaw : Stmt := topS 44
abbrev nLaw : List Str := ["_law_script", "_law_box_here", "_law_letters_here", "_law_rows", "_law_most", "_law_made_here", "_law_at", "_law_row", "_law_grown_here", "_law_found", "_law_k", "_law_text_here"]
theorem scLaw : FnScope nLaw ["_law_script"] (defScope sLaw) := ⟨rfl, rfl, rfl, by decide +kernel, rfl, by decide +kernel, by decide +kernel⟩
end Cw
set_option Elab.async false
set_option linter.all false
set_option maxRecDepth 100000
set_option maxHeartbeats 4000000
/-! Functions made in a def and handed to another one: the cells that they read are held fast while the other runs. -/
namespace Cw
open PySem PySem.Spec PyProof.Rows L2 NdefX
/-- the cells ob are told as known objects; are let go -/
def hold (ob : Addr → Option Obj) (H : Hp) : Hp := fun b => match ob b with
  | some o => some (.frz o (.own b))
  | none => H b
def loose (ob : Addr → Option Obj) (H : Hp) : Hp := fun b => match ob b with
  | some _ => none
  | none => H b
section
variable {ob : Addr → Option Obj} {H H' : Hp} {b : Addr} {o : Obj}
theorem hold_in (h : ob b = some o) : hold ob H b = some (.frz o (.own b)) := by
  unfold hold
  rw [h]
theorem hold_out (h : ob b = none) : hold ob H b = H b := by
  unfold hold
  rw [h]
theorem loose_in (h : ob b = some o) : loose ob H b = none := by
  unfold loose
  rw [h]
theorem loose_out (h : ob b = none) : loose ob H b = H b := by
  unfold loose
  rw [h]
theorem ob_none (h : ∀ o, ob b ≠ some o) : ob b = none := by
  cases e : ob b with
  | none => rfl
  | some o => exact absurd e (h o)
/-- the tuples stay -/
def Tst (H H' : Hp) : Prop := ∀ b xs, H b = some (.tup xs) → H' b = some (.tup xs)
theorem _root_.L2.Same.tst (h : Same H H') : Tst H H' := fun b xs e => h b _ e
theorem Tst.refl (H : Hp) : Tst H H := fun _ _ e => e
theorem Tst.trans {H1 : Hp} (a : Tst H H1) (c : Tst H1 H') : Tst H H' := fun b xs e => c b xs (a b xs e)
theorem Tst.upd {a : Addr} {u : HO} (h : ∀ xs, H a ≠ some (.tup xs)) : Tst H (upd H a u) := fun b xs e => by
  by_cases z : b = a
  · exact absurd (z ▸ e) (h xs)
  · rw [upd_ne z]
    exact e
theorem Tst.new {a : Addr} {u : HO} (h : H a = none) : Tst H (L2.upd H a u) := Tst.upd fun xs e => by
  rw [h] at e
  cases e
theorem _root_.L2.Same.new {a : Addr} {u : HO} (h : H a = none) : Same H (L2.upd H a u) := fun b o e => by
  rw [upd_ne (ne_of_none e h)]
  exact e
/-- what was there at first stays, a thing that came later being changed -/
theorem _root_.L2.Same.upd {H0 : Hp} {a : Addr} {u : HO} (h : Same H0 H) (n : H0 a = none) : Same H0 (L2.upd H a u) := fun b o e => by
  rw [upd_ne (ne_of_none e n)]
  exact h b o e
end
section
variable {P : Program} {w : World} {outer : List Env} {ob : Addr → Option Obj} {H H' : Hp} {h : Heap} {s s' : Shared} {Q : VK} {u : Value}
theorem hold_ok (ok : HOk P w H h) (hn : ∀ b o, ob b = some o → H b = none ∧ h.get? b = some o) : HOk P w (hold ob H) h := fun b x e => by
  cases q : ob b with
  | some o =>
    rw [hold_in q] at e
    cases e
    exact ⟨(hn b o q).2, ⟨o, (hn b o q).2⟩⟩
  | none =>
    rw [hold_out q] at e
    refine (ok b x e).stay (fun c v _ z => z) (fun c z => ?_) fun c xs z => ?_
    · cases q2 : ob c with
      | some o => rw [(hn c o q2).1] at z; cases z
      | none => rw [hold_out q2]; exact z
    · cases q2 : ob c with
      | some o => rw [(hn c o q2).1] at z; cases z
      | none => rw [hold_out q2]; exact z
theorem loose_ok (ok : HOk P w H h) (hn : ∀ b o, ob b = some o → H b = some (.frz o (.own b))) : HOk P w (loose ob H) h := fun b x e => by
  cases q : ob b with
  | some o => rw [loose_in q] at e; cases e
  | none =>
    rw [loose_out q] at e
    refine (ok b x e).stay (fun c v _ z => z) (fun c z => ?_) fun c xs z => ?_
    · cases q2 : ob c with
      | some o => rw [hn c o q2] at z; cases z
      | none => rw [loose_out q2]; exact z
    · cases q2 : ob c with
      | some o => rw [hn c o q2] at z; cases z
      | none => rw [loose_out q2]; exact z
/-- behind a call that was made with the cells held fast -/
theorem ce_hold (hn : ∀ b o, ob b = some o → H b = none ∧ s.heap.get? b = some o ∧ b ∉ frs outer)
    (c : CE outer P w (hold ob H) s (fun v H' => (∀ b o, ob b = some o → H' b = some (.frz o (.own b))) → Q v (loose ob H')) u s') : CE outer P w H s Q u s' := by
  obtain ⟨v, H1, os, bare, un, ok, r, q⟩ := c
  have fr : ∀ b o, ob b = some o → H1 b = some (.frz o (.own b)) := fun b o e => un.frzs b o (.own b) (hold_in e)
  have out : ∀ b, (∃ o, H b = some o) → ob b = none := fun b ⟨x, e⟩ => ob_none fun o z => by
    rw [(hn b o z).1] at e
    cases e
  refine ⟨v, loose ob H1, os, bare, ⟨fun b o e n hf hx => ?_, fun b o e n hf hx => ?_, fun b o e n hx => ?_, un.there, fun b xs e => ?_, fun b o x e => ?_, fun b ps e => ?_⟩, loose_ok ok fr, r, q fr⟩
  · cases q2 : ob b with
    | some o' =>
      have e1 : ObjOk P w H1 s'.heap b (.frz o' (.own b)) := ok b _ (fr b o' q2)
      have e2 := (hn b o' q2).2.1
      rw [e] at e2
      cases e2
      exact e1.1
    | none => exact un.keep b o e (by rw [hold_out q2]; exact n) hf hx
  · have q2 : ob b = none := ob_none fun o' z => (hn b o' z).2.2 hf
    exact un.slot b o e (by rw [hold_out q2]; exact n) hf hx
  · cases q2 : ob b with
    | some o' => exact loose_in q2
    | none =>
      rw [loose_out q2]
      exact un.free b o e (by rw [hold_out q2]; exact n) hx
  · have q2 := out b ⟨_, e⟩
    rw [loose_out q2]
    exact un.tups b xs (by rw [hold_out q2]; exact e)
  · have q2 := out b ⟨_, e⟩
    rw [loose_out q2]
    exact un.frzs b o x (by rw [hold_out q2]; exact e)
  · have q2 := out b ⟨_, e⟩
    rw [loose_out q2]
    exact un.tbls b ps (by rw [hold_out q2]; exact e)
/-- behind a call that was made with the cells let go -/
theorem ce_loose (ok0 : HOk P w H s.heap) (frf : ∀ b ∈ frs outer, H b = none) (hn : ∀ b o, ob b = some o → H b = some (.frz o (.own b)))
    (c : CE outer P w (loose ob H) s (fun v H' => (∀ b o, ob b = some o → H' b = none) → Q v (hold ob H')) u s') : CE outer P w H s Q u s' := by
  obtain ⟨v, H1, os, bare, un, ok, r, q⟩ := c
  have there : ∀ b o, ob b = some o → s.heap.get? b = some o := fun b o e => by
    have e1 : ObjOk P w H s.heap b (.frz o (.own b)) := ok0 b _ (hn b o e)
    exact e1.1
  have nf : ∀ b o, ob b = some o → b ∉ frs outer := fun b o e z => by
    have := frf b z
    rw [hn b o e] at this
    cases this
  have fr : ∀ b o, ob b = some o → H1 b = none := fun b o e => un.free b o (there b o e) (loose_in e) (by simp)
  have st : ∀ b o, ob b = some o → s'.heap.get? b = some o := fun b o e => un.keep b o (there b o e) (loose_in e) (nf b o e) (by simp)
  refine ⟨v, hold ob H1, os, bare, ⟨fun b o e n hf hx => ?_, fun b o e n hf hx => ?_, fun b o e n hx => ?_, un.there, fun b xs e => ?_, fun b o x e => ?_, fun b ps e => ?_⟩, hold_ok ok fun b o e => ⟨fr b o e, st b o e⟩, r, q fr⟩
  · have q2 : ob b = none := ob_none fun o' z => by
      rw [hn b o' z] at n
      cases n
    exact un.keep b o e (by rw [loose_out q2]; exact n) hf hx
  · have q2 : ob b = none := ob_none fun o' z => nf b o' z hf
    exact un.slot b o e (by rw [loose_out q2]; exact n) hf hx
  · have q2 : ob b = none := ob_none fun o' z => by
      rw [hn b o' z] at n
      cases n
    rw [hold_out q2]
    exact un.free b o e (by rw [loose_out q2]; exact n) hx
  · have q2 : ob b = none := ob_none fun o' z => by
      rw [hn b o' z] at e
      cases e
    rw [hold_out q2]
    exact un.tups b xs (by rw [loose_out q2]; exact e)
  · cases q2 : ob b with
    | some o' =>
      rw [hn b o' q2] at e
      cases e
      exact hold_in q2
    | none =>
      rw [hold_out q2]
      exact un.frzs b o x (by rw [loose_out q2]; exact e)
  · have q2 : ob b = none := ob_none fun o' z => by
      rw [hn b o' z] at e
      cases e
    rw [hold_out q2]
    exact un.tbls b ps (by rw [loose_out q2]; exact e)
end

/-! ### what may be called -/
/-- the function at f, called at H with arguments of which S tells, ends as S tells -/
def Clo (P : Program) (w : World) (K : PySem.W.Frag) (mg : Str → Option Value) (base : Heap) (k : Nat) (H : Hp) (f : Addr) (S : List V → Hp → VK → Prop) : Prop :=
  (∃ F : NF, H f = some (FnO f F)) ∧ ∀ (A : Around) (outer : List Env) (s : Shared) (us : List Value) (vs : List V) (Q : VK), Room k A → Env0 P w K mg base A outer s H → Vals vs us → S vs H Q → codeAny (model P w) A (.call (.ref f) ⟨us, []⟩) (CR CX0 outer P w H s Q E0) s
/-- f(..), f a name that holds such a function -/
def tClo (P : Program) (w : World) (K : PySem.W.Frag) (mg : Str → Option Value) (base : Heap) (k i : Nat) (t : TA) : TE := fun σ H Q => ∃ f, σ[i]? = some (some (.ref f)) ∧ (∃ F : NF, H f = some (FnO f F)) ∧
  t σ H fun vs H1 => ∃ S, Clo P w K mg base k H1 f S ∧ S vs H1 Q
section
variable {X : Cx} {k i : Nat} {x : Str} {t : TA} {e : Expr} {es : List Expr} {p pos : Pos}
theorem pe_clo (hr : Room k X.A) (hN : X.N[i]? = some x) (hv : Vis X.env.scope x) (ha : PA X (e :: es) t)
    (hd : (x == ("__debug__" : Str)) = false := by decide) (hcd : (x == ("__classdict__" : Str)) = false := by decide)
    (he : starEach (e :: es) X.env = (false, eval e X.env) :: starEach es X.env := by rfl) (hpl : (backTo pos (starEach es X.env)).any (·.1) = false := by rfl) :
    PE X (.Call (.Name x p) (e :: es) [] pos) (tClo X.prog X.w X.K X.mg X.base k i t) := by
  refine ⟨fun pins s σ H Q I h => ?_⟩
  obtain ⟨f, hs, ⟨F0, hf⟩, ht⟩ := h
  refine wpAny_Call_Name_kw (thn ((pe_var (pos := p) hN hv hd hcd).run pins s σ H (fun v H1 => v = .ref f ∧ H1 = H) I ⟨.ref f, hs, rfl, rfl⟩) fun u s1 ⟨v, H1, I1, r1, q1⟩ => ?_)
  obtain ⟨ev, eH⟩ := q1
  subst ev
  rw [eH] at I1
  obtain rfl : u = Value.ref f := r1
  refine PySem.W.callWith_F (first := []) (fnAt_of I1 hf) (thn (ha.run pos pins s1 σ H _ I1 ht) fun us s2 ⟨vs, H2, I2, r, S, c, q⟩ => ⟨?_, ?_⟩) he hpl
  · obtain ⟨F, h1⟩ := c.1
    exact fnAt_of I2 h1
  · show wpAny _ _ (call (.ref f) us) _ _ _
    refine wpAny_call (codeAny_mono (c.2 X.A X.stack s2 us vs Q hr I2.env0 r q) fun r s' hq => ?_)
    cases r with
    | error e => exact hq.elim
    | ok fl =>
      cases fl with
      | ret u => exact I2.after hq
      | next => exact False.elim hq
      | brk => exact False.elim hq
      | cont => exact False.elim hq
end

/-! ### how a function with captured cells may be called -/
/-- the cells cl of a function are held fast in H by ob; what they hold -/
structure HeldAt (ob : Addr → Option Obj) (H : Hp) (cl : List (Str × Addr)) (fr : List Str) (ws : List (Option V)) : Prop where
  len : ws.length = fr.length
  cov : ∀ y c, cl.lookup y = some c → ∃ o v, ob c = some o ∧ o.data = .cell v
  held : ∀ c o, ob c = some o → H c = some (.frz o (.own c))
  inj : ∀ x y c, cl.lookup x = some c → cl.lookup y = some c → x = y
  val : ∀ (i : Nat) (y : Str), fr[i]? = some y → ∃ c, cl.lookup y = some c ∧ ∀ v, ws[i]? = some (some v) → ∃ o u, ob c = some o ∧ o.data = .cell (some u) ∧ RelV v u
theorem HeldAt.same {ob : Addr → Option Obj} {H H' : Hp} {cl : List (Str × Addr)} {fr : List Str} {ws : List (Option V)} (h : HeldAt ob H cl fr ws) (s : Same H H') : HeldAt ob H' cl fr ws :=
  ⟨h.len, h.cov, fun c o e => s _ _ (h.held c o e), h.inj, h.val⟩
section
variable {P : Program} {w : World} {K : PySem.W.Frag} {mg : Str → Option Value} {base : Heap} {k : Nat} {f : Addr} {F : NF} {ps fr : List Str} {sp : List (Option V) → Sp} {ob : Addr → Option Obj} {H : Hp} {ws : List (Option V)}
theorem clo_of (Fn : NOkK P w K mg base CX0 k f F ps fr sp) (hf : H f = some (FnO f F)) (hc : HeldAt ob H F.cl fr ws) :
    Clo P w K mg base k H f fun vs H Q => sp ws vs (loose ob H) (fun v H' => (∀ b o, ob b = some o → H' b = none) → Q v (hold ob H')) E0 := by
  refine ⟨⟨F, hf⟩, fun A outer s us vs Q hr e0 r q => ?_⟩
  have hfo : ob f = none := ob_none fun o z => by
    have e := hc.held f o z
    rw [hf] at e
    cases e
  have there : ∀ b o, ob b = some o → s.heap.get? b = some o := fun b o e => by
    have e1 : ObjOk P w H s.heap b (.frz o (.own b)) := e0.hok b _ (hc.held b o e)
    exact e1.1
  have e1 : Env0 P w K mg base A outer s (loose ob H) := ⟨e0.frames, e0.mod, fun b o e => ⟨(e0.bs b o e).1, by
    cases q2 : ob b with
    | some o' => exact loose_in q2
    | none => rw [loose_out q2]; exact (e0.bs b o e).2⟩, e0.bsz, e0.funs, fun b hb => by
    cases q2 : ob b with
    | some o' => exact loose_in q2
    | none => rw [loose_out q2]; exact e0.frf b hb, loose_ok e0.hok hc.held, e0.bare⟩
  have C : CellsAt F.cl fr ws s.heap (loose ob H) := ⟨hc.len, fun y c e => by
    obtain ⟨o, v, h1, h2⟩ := hc.cov y c e
    exact ⟨loose_in h1, v, o, there c o h1, h2⟩, hc.inj, fun i y e => by
    obtain ⟨c, h1, h2⟩ := hc.val i y e
    refine ⟨c, h1, fun v ev => ?_⟩
    obtain ⟨o, u, h3, h4, h5⟩ := h2 v ev
    exact ⟨u, h5, o, there c o h3, h4⟩⟩
  refine codeAny_mono (Fn.run A outer s (loose ob H) us vs ws _ E0 hr e1 (by rw [loose_out hfo]; exact hf) C r q) fun r s' hq => ?_
  cases r with
  | error e => exact hq
  | ok fl =>
    cases fl with
    | ret u => exact ce_loose e0.hok e0.frf hc.held hq
    | next => exact hq
    | brk => exact hq
    | cont => exact hq
end

/-! ### a call of a def of the module, the own cells held fast -/
/-- the cells of the running def's own names, told of its slots -/
structure OwnCells (X : Cx) (σ : L2.St) (H : Hp) (ob : Addr → Option Obj) : Prop where
  free : ∀ b o, ob b = some o → H b = none
  cov : ∀ y c, X.env.cells.lookup y = some c → ∃ o v, ob c = some o ∧ o.data = .cell v
  inj : ∀ x y c, X.env.cells.lookup x = some c → X.env.cells.lookup y = some c → x = y
  has : ∀ y, X.env.scope.names.lookup y = some .cell ∨ X.env.scope.names.lookup y = some .free → ∃ c, X.env.cells.lookup y = some c
  val : ∀ (j : Nat) (y : Str) (c : Addr) (v : V), X.N[j]? = some y → X.env.cells.lookup y = some c → (X.env.scope.names.lookup y = some .cell ∨ X.env.scope.names.lookup y = some .free) → slotAt σ j = some v → ∃ o u, ob c = some o ∧ o.data = .cell (some u) ∧ RelV v u
def tHold (X : Cx) (sp : Sp) (E : XK) (t : TA) : TE := fun σ H Q => t σ H fun vs H1 => ∀ ob, OwnCells X σ H1 ob → sp vs (hold ob H1) (fun v H' => (∀ b o, ob b = some o → H' b = some (.frz o (.own b))) → Q v (loose ob H')) E
section
variable {X : Cx} {k : Nat} {f : Addr} {fd : FuncData} {ps : List Str} {sp : Sp} {x : Str} {p pos : Pos} {e : Expr} {es : List Expr} {t : TA} {pins : List (Addr × Obj)} {σ : L2.St} {H : Hp} {s : Shared}
noncomputable def obOf (X : Cx) (h : Heap) (b : Addr) : Option Obj := by
  classical exact if ∃ y, X.env.cells.lookup y = some b then h.get? b else none
theorem obOf_some {h : Heap} {b : Addr} {o : Obj} (e : obOf X h b = some o) : (∃ y, X.env.cells.lookup y = some b) ∧ h.get? b = some o := by
  unfold obOf at e
  split at e
  · rename_i z
    exact ⟨z, e⟩
  · cases e
theorem obOf_in {h : Heap} {b : Addr} {y : Str} (e : X.env.cells.lookup y = some b) : obOf X h b = h.get? b := by
  unfold obOf
  rw [if_pos ⟨y, e⟩]
theorem own_cells (I : Inv X pins σ H s) : OwnCells X σ H (obOf X s.heap) where
  free := fun b o e => by
    obtain ⟨⟨y, hy⟩, _⟩ := obOf_some e
    exact I.freeC y b hy
  cov := fun y c e => by
    obtain ⟨v, o, h1, h2⟩ := I.cell y c e
    exact ⟨o, v, by rw [obOf_in e]; exact h1, h2⟩
  inj := I.ok.inj
  has := I.ok.has
  val := fun j y c v hj hc k e => by
    have e2 := slotAt_some e
    obtain ⟨m, hn, hl⟩ := I.loc
    obtain ⟨u, r, l⟩ := hl j y v hj e2 (k.elim (fun z => .inr (.inl z)) fun z => .inr (.inr z))
    rcases l with ⟨z, _⟩ | ⟨_, a', ha', o, h1, h2⟩
    · have z' : X.env.scope.names.lookup y = some .local := z
      rcases k with k | k <;> rw [k] at z' <;> cases z'
    · rw [hc] at ha'
      cases ha'
      exact ⟨o, u, by rw [obOf_in hc]; exact h1, h2, r⟩
theorem hold_env (hfn : ∀ x, X.fn x = true) (I : Inv X pins σ H s) : (∀ b o, obOf X s.heap b = some o → H b = none ∧ s.heap.get? b = some o ∧ b ∉ frs X.stack) ∧ Env0 X.prog X.w X.K X.mg X.base X.A X.stack s (hold (obOf X s.heap) H) := by
  have e0 := I.env0
  have base : ∀ b o, obOf X s.heap b = some o → X.s_0.heap.objs.size ≤ b := fun b o e => by
    obtain ⟨⟨y, hy⟩, _⟩ := obOf_some e
    exact I.ok.cab y b (hfn y) hy
  have hn : ∀ b o, obOf X s.heap b = some o → H b = none ∧ s.heap.get? b = some o ∧ b ∉ frs X.stack := fun b o e => by
    obtain ⟨⟨y, hy⟩, ho⟩ := obOf_some e
    refine ⟨I.freeC y b hy, ho, fun z => ?_⟩
    rcases List.mem_cons.mp (I.stkSub b z) with q | q
    · exact I.cne y b hy q
    · obtain ⟨_, o', ho', _⟩ := I.ok.funs.mem q
      exact absurd (Nat.lt_of_lt_of_le (Heap.lt_size ho') (base b o e)) (Nat.lt_irrefl _)
  refine ⟨hn, e0.frames, e0.mod, fun b o e => ⟨(e0.bs b o e).1, ?_⟩, e0.bsz, e0.funs, fun b hb => ?_, hold_ok e0.hok fun b o e => ⟨(hn b o e).1, (hn b o e).2.1⟩, e0.bare⟩
  · have q2 : obOf X s.heap b = none := ob_none fun o' z => by
      have h1 := base b o' z
      have h2 := Heap.lt_size (I.ok.bs b o e).1
      exact absurd (Nat.lt_of_lt_of_le h2 h1) (Nat.lt_irrefl _)
    rw [hold_out q2]
    exact (e0.bs b o e).2
  · have q2 : obOf X s.heap b = none := ob_none fun o' z => (hn b o' z).2.2 hb
    rw [hold_out q2]
    exact e0.frf b hb
theorem pe_hold (hfn : ∀ x, X.fn x = true) (F : FnOk X.prog X.w X.K X.mg X.base CX0 k f fd ps sp) (hr : Room k X.A) (hg : Gl X x) (hm : X.mg x = some (.ref f)) (hk : PySem.W.keepIn X.K (.ref f) = true) (hb : Binds X.K fd ps [])
    (ha : PA X (e :: es) t) (hdb : (x == ("__debug__" : Str)) = false := by decide) (he : starEach (e :: es) X.env = (false, eval e X.env) :: starEach es X.env := by rfl) (hpl : (backTo pos (starEach es X.env)).any (·.1) = false := by rfl) :
    PE X (.Call (.Name x p) (e :: es) [] pos) (tHold X sp E0 t) := by
  refine ⟨fun pins s σ H Q I h => ?_⟩
  refine wpAny_Call_Name_kw (ld_glob I hg hm ?_ hdb)
  refine PySem.W.callWith_K (h₀ := X.base) I.ok.mod.kin hk (thn (ha.run pos pins s σ H _ I h) fun us s1 ⟨vs, H1, I1, r, q⟩ => ⟨I1.kIn, ?_⟩) he hpl
  obtain ⟨hn, e0⟩ := hold_env hfn I1
  have q := q (obOf X s1.heap) (own_cells I1)
  have hl : us.length = ps.length := by rw [← r.length]; exact F.len _ _ _ _ q
  have hb1 : BindsTo s1 fd ⟨us, []⟩ (ps.zip us) := by
    have z := hb s1 us I1.kIn (by rw [List.append_nil]; exact hl)
    rw [List.append_nil] at z
    exact z
  refine wpAny_call (codeAny_mono (F.run X.A X.stack s1 (hold (obOf X s1.heap) H1) ⟨us, []⟩ us vs _ E0 hr e0 hb1 r q) fun r s' hq => ?_)
  cases r with
  | error e => exact hq.elim
  | ok fl =>
    cases fl with
    | ret u => exact I1.after (ce_hold hn hq)
    | next => exact False.elim hq
    | brk => exact False.elim hq
    | cont => exact False.elim hq
end
/-- a function made here, its cells held -/
theorem held_made {X : Cx} {σ : L2.St} {H : Hp} {ob : Addr → Option Obj} (O : OwnCells X σ H ob) {scope : Scope} {fr : List Str} {js : List Nat} (hfree : ∀ y ∈ scope.names, y.2 = .free → X.env.scope.names.lookup y.1 = some .cell ∨ X.env.scope.names.lookup y.1 = some .free) (hfr : ∀ y ∈ fr, (y, NameKind.free) ∈ scope.names) (hjs : js.map (fun j => X.N[j]?) = fr.map some) :
    ∃ ob' : Addr → Option Obj, (∀ b o, ob' b = some o → ob b = some o) ∧ HeldAt ob' (hold ob H) (cloFrom X.env.cells scope.names []) fr (js.map (slotAt σ)) := by
  classical
  have hf : ∀ y ∈ scope.names, y.2 = .free → ∃ c, X.env.cells.lookup y.1 = some c := fun y hy e => O.has _ (hfree y hy e)
  let ob' : Addr → Option Obj := fun b => if ∃ y, (cloFrom X.env.cells scope.names []).lookup y = some b then ob b else none
  have at_in : ∀ {y c}, (cloFrom X.env.cells scope.names []).lookup y = some c → ob' c = ob c := fun {y c} e => if_pos ⟨y, e⟩
  have sub : ∀ b o, ob' b = some o → ob b = some o := fun b o e => by
    have e : (if ∃ y, (cloFrom X.env.cells scope.names []).lookup y = some b then ob b else none) = some o := e
    split at e
    · exact e
    · cases e
  refine ⟨ob', sub, ?_, fun y c e => ?_, fun c o e => hold_in (sub c o e), fun x y c e1 e2 => O.inj x y c (clo_cm hf e1) (clo_cm hf e2), fun i y e => ?_⟩
  · have q := congrArg List.length hjs
    rw [List.length_map, List.length_map] at q
    rw [List.length_map]
    exact q
  · obtain ⟨o, v, h1, h2⟩ := O.cov y c (clo_cm hf e)
    exact ⟨o, v, by rw [at_in e]; exact h1, h2⟩
  · have hy := List.mem_of_getElem? e
    have k := hfree (y, .free) (hfr y hy) rfl
    obtain ⟨c, hc⟩ := O.has y k
    have hcl := clo_has hf (hfr y hy) hc
    refine ⟨c, hcl, fun v ev => ?_⟩
    have e2 : (js.map fun j => X.N[j]?)[i]? = some (some y) := by
      rw [hjs, List.getElem?_map, e] <;> rfl
    rw [List.getElem?_map] at e2 ev
    cases ej : js[i]? with
    | none => rw [ej] at e2; cases e2
    | some j =>
      rw [ej] at e2 ev
      obtain ⟨o, u, h1, h2, h3⟩ := O.val j y c v (Option.some.inj e2) hc k (Option.some.inj ev)
      exact ⟨o, u, by rw [at_in hcl]; exact h1, h2, h3⟩
end Cw
set_option Elab.async false
set_option linter.all false
set_option maxRecDepth 100000
set_option maxHeartbeats 4000000
/-! Rooms as values; dicts whose keys are rooms (numbers, or tuples of numbers, nested). -/
namespace Cw
open PySem PySem.Spec PyProof.Rows L2 Kw
abbrev iv (n : Nat) : V := .int (n : Int)
/-- the value v is the room r -/
def RmAt (H : Hp) (v : V) : Rm → Prop
  | .one i => v = iv i
  | .two i j => ∃ p, v = .ref p ∧ H p = some (.tup [iv i, iv j])
  | .some i js => ∃ p q, v = .ref p ∧ H p = some (.tup [iv i, .ref q]) ∧ H q = some (.tup (js.map iv))
theorem RmAt.ts {H H' : Hp} {v : V} {r : Rm} (h : RmAt H v r) (s : Tst H H') : RmAt H' v r := by
  cases r with
  | one i => exact h
  | two i j =>
    obtain ⟨p, e, h⟩ := h
    exact ⟨p, e, s _ _ h⟩
  | some i js =>
    obtain ⟨p, q, e, h1, h2⟩ := h
    exact ⟨p, q, e, s _ _ h1, s _ _ h2⟩
def flat : Rm → Bool
  | .one _ => true
  | _ => false
def key : Rm → NestedKey
  | .one i => .num i
  | .two i j => .tup [.num i, .num j]
  | .some i js => .tup [.num i, .tup (js.map fun (n : Nat) => .num n)]
theorem nums_inj : ∀ {a b : List Nat}, a.map (fun (n : Nat) => NestedKey.num n) = b.map (fun (n : Nat) => NestedKey.num n) → a = b
  | [], [], _ => rfl
  | [], _ :: _, h => by simp at h
  | _ :: _, [], h => by simp at h
  | x :: a, y :: b, h => by
    rw [List.map_cons, List.map_cons] at h
    injection h with h1 h2
    injection h1 with h1
    rw [nums_inj h2, Int.ofNat_inj.mp h1]
theorem key_inj {a b : Rm} (h : key a = key b) : a = b := by
  cases a <;> cases b <;> simp only [key] at h
  · injection h with h; rw [Int.ofNat_inj.mp h]
  · cases h
  · cases h
  · cases h
  · injection h with h
    injection h with h1 h2
    injection h2 with h2 _
    injection h1 with h1
    injection h2 with h2
    rw [Int.ofNat_inj.mp h1, Int.ofNat_inj.mp h2]
  · injection h with h
    injection h with h1 h2
    injection h2 with h2 _
    cases h2
  · cases h
  · injection h with h
    injection h with h1 h2
    injection h2 with h2 _
    cases h2
  · injection h with h
    injection h with h1 h2
    injection h2 with h2 _
    injection h1 with h1
    injection h2 with h2
    rw [Int.ofNat_inj.mp h1, nums_inj h2]
section
variable {P : Program} {w : World} {H : Hp} {h : Heap}
theorem nested_ints : ∀ {js : List Nat} {us : List Value}, Vals (js.map iv) us → NestedAll h (js.map fun (n : Nat) => .num n) us
  | [], _, .nil => .nil
  | j :: js, _, .cons r t => by
    obtain ⟨k, rfl⟩ := r
    exact .cons (.int _ k) (nested_ints t)
theorem tup_obj (ok : HOk P w H h) {p : Addr} {xs : List V} (e : H p = some (.tup xs)) : ∃ (us : List Value) (o : Obj) (n : Nat), Vals xs us ∧ h.get? p = some o ∧ o.cls = .type "tuple" ∧ o.data = .seq us.toArray n := by
  obtain ⟨_, us, r, o, h1, h2, n, h3⟩ := (show ObjOk P w H h p (.tup xs) from ok p _ e)
  exact ⟨us, o, n, r, h1, h2, h3⟩
theorem key_depth (r : Rm) : (key r).depth ≤ 8 := by
  have z : ∀ js : List Nat, NestedKey.depthAll (js.map fun (n : Nat) => .num n) = 0 := fun js => by
    induction js with
    | nil => rfl
    | cons j js ih => rw [List.map_cons, NestedKey.depthAll, ih]; rfl
  cases r with
  | one i => exact Nat.zero_le _
  | two i j => exact (by decide : 1 ≤ 8)
  | some i js =>
    show max 0 (max (NestedKey.depthAll (js.map fun (n : Nat) => .num n) + 1) 0) + 1 ≤ 8
    rw [z js]
    decide
theorem key_is (ok : HOk P w H h) {a : Addr} {r : Rm} (e : RmAt H (.ref a) r) : (nestedKind P w).is h (key r) a := by
  refine ⟨?_, key_depth r⟩
  cases r with
  | one i => cases e
  | two i j =>
    obtain ⟨p, ep, e⟩ := e
    cases ep
    obtain ⟨us, o, n, r, h1, h2, h3⟩ := tup_obj ok e
    exact .tup h1 h2 h3 (by simpa using nested_ints (h := h) (js := [i, j]) r)
  | some i js =>
    obtain ⟨p, q, ep, e1, e2⟩ := e
    cases ep
    obtain ⟨us, o, n, r, h1, h2, h3⟩ := tup_obj ok e1
    obtain ⟨us', o', n', r', h1', h2', h3'⟩ := tup_obj ok e2
    cases r with
    | cons r0 rt =>
      obtain ⟨k, rfl⟩ := r0
      cases rt with
      | cons r1 rt =>
        cases rt
        cases r1
        exact .tup h1 h2 h3 (.cons (.int _ _) (.cons (.tup h1' h2' h3' (by simpa using nested_ints (h := h) r')) .nil))
end
/-- a dict with keys that are tuples, told by its entries -/
def RawD (P : Program) (w : World) (d : Addr) (xs : List (NestedKey × Addr × Value)) : HO := .ext fun h => ∃ o es ep, h.get? d = some o ∧ o.ExactDict ∧ o.data = .dict es ep ∧ es.toList = xs.map (entryOfKey (nestedKind P w)) ∧ (xs.map (·.1)).Nodup
def EntAt (H : Hp) (p : Rm × V) (x : NestedKey × Addr × Value) : Prop := x.1 = key p.1 ∧ RmAt H (.ref x.2.1) p.1 ∧ RelV p.2 x.2.2
/-- at d stands a dict of these rooms and values, in the order of insertion -/
def RDict (P : Program) (w : World) (H : Hp) (d : Addr) : Bool → List (Rm × V) → Prop
  | true, kvs => H d = some (.dK (kvs.map fun p => (.inl (p.1.nr : Int), p.2))) ∧ ∀ p ∈ kvs, ∃ i, p.1 = .one i
  | false, kvs => kvs.length ≤ sizeLine ∧ (d == sysModules) = false ∧ ∃ xs, H d = some (RawD P w d xs) ∧ Paired (EntAt H) kvs xs
section
variable {P : Program} {w : World} {H H' : Hp} {h : Heap} {d : Addr} {kvs : List (Rm × V)} {fl : Bool}
theorem EntAt.ts {p : Rm × V} {x : NestedKey × Addr × Value} (e : EntAt H p x) (s : Tst H H') : EntAt H' p x := ⟨e.1, e.2.1.ts s, e.2.2⟩
theorem RDict.same (e : RDict P w H d fl kvs) (hd : H' d = H d) (s : Tst H H') : RDict P w H' d fl kvs := by
  cases fl with
  | true => exact ⟨hd.trans e.1, e.2⟩
  | false =>
    obtain ⟨z, y, xs, h1, h2⟩ := e
    exact ⟨z, y, xs, hd.trans h1, Paired.mapP h2 fun _ _ q => q.ts s⟩
theorem RDict.notup (e : RDict P w H d fl kvs) : ∀ xs, H d ≠ some (.tup xs) := fun xs q => by
  cases fl with
  | true => have := e.1; rw [q] at this; cases this
  | false =>
    obtain ⟨_, _, xs, h1, _⟩ := e
    rw [q] at h1
    cases h1
theorem RDict.mut (e : RDict P w H d fl kvs) : Mut (H d) := by
  cases fl with
  | true => rw [e.1]; exact True.intro
  | false =>
    obtain ⟨_, _, xs, h1, _⟩ := e
    rw [h1]
    exact True.intro
theorem valV_inl {kvs : List (Rm × V)} (hk : ∀ p ∈ kvs, ∃ i, p.1 = .one i) (i : Nat) : valV (kvs.map fun p => ((Sum.inl (p.1.nr : Int) : Key), p.2)) (.inl (i : Int)) = valV kvs (.one i) := by
  induction kvs with
  | nil => rfl
  | cons p kvs ih =>
    obtain ⟨j, hj⟩ := hk p List.mem_cons_self
    have ih := ih fun q hq => hk q (List.mem_cons_of_mem _ hq)
    rw [List.map_cons]
    by_cases e : j = i
    · have e1 : ((Sum.inl (p.1.nr : Int) : Key), p.2).1 = .inl (i : Int) := by rw [hj, e]; rfl
      rw [valV_pos (p := ((Sum.inl (p.1.nr : Int) : Key), p.2)) e1, valV_pos (by rw [hj, e])]
    · have e1 : ¬ ((Sum.inl (p.1.nr : Int) : Key), p.2).1 = .inl (i : Int) := by
        rw [hj]
        intro z
        exact e (Int.ofNat_inj.mp (Sum.inl.inj z))
      have e2 : ¬ p.1 = .one i := by
        rw [hj]
        intro z
        cases z
        exact e rfl
      rw [valV_neg (p := ((Sum.inl (p.1.nr : Int) : Key), p.2)) e1, valV_neg e2, ih]
theorem ent_val : ∀ {kvs : List (Rm × V)} {xs : List (NestedKey × Addr × Value)}, Paired (EntAt H) kvs xs → ∀ r : Rm, RelO (valV kvs r) ((atKey xs (key r)).map (·.2))
  | [], _, .nil, _ => True.intro
  | p :: kvs, _, .cons (b := x) q t, r => by
    by_cases e : p.1 = r
    · have e2 : ∀ l, atKey (x :: l) (key r) = some x.2 := fun l => by
        unfold atKey
        rw [List.find?_cons]
        simp [q.1, e]
      rw [valV_pos e, e2]
      exact q.2.2
    · have e1 : ¬ x.1 = key r := fun z => e (key_inj (q.1.symm.trans z))
      have e2 : ∀ l, atKey (x :: l) (key r) = atKey l (key r) := fun l => by
        unfold atKey
        rw [List.find?_cons]
        simp [e1]
      rw [valV_neg e, e2]
      exact ent_val t r
theorem ent_of (ok : HOk P w H h) : ∀ {kvs : List (Rm × V)} {xs : List (NestedKey × Addr × Value)}, Paired (EntAt H) kvs xs → ∀ x ∈ xs, (nestedKind P w).is h x.1 x.2.1
  | [], _, .nil, x, hx => nomatch hx
  | p :: kvs, _, .cons (b := y) q t, x, hx => by
    rcases List.mem_cons.mp hx with e | hx
    · subst e
      rw [q.1]
      exact key_is ok q.2.1
    · exact ent_of ok t x hx
theorem raw_of (ok : HOk P w H h) (e : RDict P w H d false kvs) : kvs.length ≤ sizeLine ∧ (d == sysModules) = false ∧ ∃ xs, H d = some (RawD P w d xs) ∧ Paired (EntAt H) kvs xs ∧ h.DictOfH (nestedKind P w) d xs := by
  obtain ⟨z, y, xs, h1, h2⟩ := e
  obtain ⟨⟨o, es, ep, g1, g2, g3, g4, g5⟩, _, _⟩ := ok d _ h1
  exact ⟨z, y, xs, h1, h2, o, es, ep, g1, g2, g3, g4, ent_of ok h2, g5⟩
theorem raw_new {xs : List (NestedKey × Addr × Value)} (dd : h.DictOfH (nestedKind P w) d xs) : ObjOk P w H' h d (RawD P w d xs) := by
  obtain ⟨o, es, ep, g1, g2, g3, g4, _, g5⟩ := dd
  exact ⟨⟨o, es, ep, g1, g2, g3, g4, g5⟩, ⟨o, g1⟩, fun h1 h2 ⟨o, es, ep, a, b⟩ k => ⟨o, es, ep, k _ a, b⟩⟩
end
section
variable {X : Cx} {pins : List (Addr × Obj)} {σ : L2.St} {H : Hp} {s : Shared} {a : Addr} {y v : V} {u : Value} {A : Around} {E : Value → Shared → Prop} {kvs : List (Rm × V)} {r : Rm} {fl : Bool}
theorem room_in1 (hu : A.units + 64 < cLine) : (nestedKind X.prog X.w).room A.in1 := by
  show A.units + 1 + 8 < cLine
  omega
theorem one_of (e : RmAt H y r) (f : flat r = true) : ∃ i, r = .one i ∧ y = iv i := by
  cases r with
  | one i => exact ⟨i, rfl, e⟩
  | two => cases f
  | some => cases f
theorem ref_of (e : RmAt H y r) (f : flat r = false) : ∃ b, y = .ref b := by
  cases r with
  | one i => cases f
  | two =>
    obtain ⟨p, e, _⟩ := e
    exact ⟨p, e⟩
  | some =>
    obtain ⟨p, q, e, _⟩ := e
    exact ⟨p, e⟩
theorem r_getItem {Q : Value → Shared → Prop} (hu : A.units + 64 < cLine) (I : Inv X pins σ H s) (D : RDict X.prog X.w H a fl kvs) (er : RmAt H y r) (ef : flat r = fl) (l : valV kvs r = some v) (ry : RelV y u) (h : ∀ w' s', Inv X pins σ H s' → RelV v w' → Q w' s') :
    wpAny (model X.prog X.w) A (getItem (.ref a) u) Q E s := by
  cases fl with
  | true =>
    obtain ⟨i, rfl, rfl⟩ := one_of er ef
    exact d_getItem (v := v) (by omega) I (by
      have g := DGet.k (k := .inl (i : Int)) D.1
      rw [valV_inl D.2, l] at g
      exact g) ry h
  | false =>
    obtain ⟨b, rfl⟩ := ref_of er ef
    cases (show u = Value.ref b from ry)
    obtain ⟨z, hd, xs, hx, rel, dd⟩ := raw_of I.hok D
    obtain ⟨w', hw, rw'⟩ := RelO.some_of (v := v) (o := (atKey xs (key r)).map (·.2)) (by rw [← l]; exact ent_val rel r)
    obtain ⟨p, hp, hp2⟩ := Option.map_eq_some_iff.mp hw
    refine wpAny_getItem_heap (knd := nestedKind X.prog X.w) (room_in1 hu) (key_is I.hok er) dd hp ?_
    rw [hp2]
    exact h w' _ (I.tok _) rw'
theorem r_notIn {Q : Value → Shared → Prop} (hu : A.units + 64 < cLine) (I : Inv X pins σ H s) (D : RDict X.prog X.w H a fl kvs) (er : RmAt H y r) (ef : flat r = fl) (ry : RelV y u) (h : ∀ s', Inv X pins σ H s' → Q (.bool (!(valV kvs r).isSome)) s') :
    wpAny (model X.prog X.w) A (compareOp .NotIn u (.ref a)) Q E s := by
  cases fl with
  | true =>
    obtain ⟨i, rfl, rfl⟩ := one_of er ef
    refine d_notIn (by omega) I (DGet.k (k := .inl (i : Int)) D.1) ry ?_
    rw [valV_inl D.2]
    exact h
  | false =>
    obtain ⟨b, rfl⟩ := ref_of er ef
    cases (show u = Value.ref b from ry)
    obtain ⟨z, hd, xs, hx, rel, dd⟩ := raw_of I.hok D
    refine wpAny_notIn_heap (knd := nestedKind X.prog X.w) (room_in1 hu) (key_is I.hok er) hd dd ?_
    have q := (ent_val rel r).isSome_eq
    rw [Option.isSome_map] at q
    rw [← q]
    exact h _ (I.tok _)
theorem atKey_none {xs : List (NestedKey × Addr × Value)} (rel : Paired (EntAt H) kvs xs) (l : valV kvs r = none) : atKey xs (key r) = none := by
  have q := (ent_val rel r).isSome_eq
  rw [Option.isSome_map, l] at q
  cases e : atKey xs (key r) with
  | none => rfl
  | some p => rw [e] at q; cases q
theorem r_setItem {g : Value} {Q : Unit → Shared → Prop} (hu : A.units + 64 < cLine) (I : Inv X pins σ H s) (D : RDict X.prog X.w H a fl kvs) (er : RmAt H y r) (ef : flat r = fl) (l : valV kvs r = none) (hl : kvs.length < sizeLine) (ry : RelV y u) (rv : RelV v g)
    (h : ∀ o s', Inv X pins σ (upd H a o) s' → RDict X.prog X.w (upd H a o) a fl (kvs ++ [(r, v)]) → Q () s') : wpAny (model X.prog X.w) A (setItem (.ref a) u g) Q E s := by
  cases fl with
  | true =>
    obtain ⟨i, rfl, rfl⟩ := one_of er ef
    have e : putK (kvs.map fun p => ((Sum.inl (p.1.nr : Int) : Key), p.2)) (.inl (i : Int)) v = (kvs ++ [(Rm.one i, v)]).map fun p => ((Sum.inl (p.1.nr : Int) : Key), p.2) := by
      rw [putK_new v (by rw [valV_inl D.2]; exact l), List.map_append]
      rfl
    refine d_setItem (by omega) I (DPut.k (k := .inl (i : Int)) (v := v) D.1 (by rw [List.length_map]; exact hl)) ry rv fun s' J => ?_
    rw [e] at J
    refine h _ s' J ⟨upd_same, fun p hp => ?_⟩
    rcases List.mem_append.mp hp with q | q
    · exact D.2 p q
    · obtain rfl : p = (Rm.one i, v) := by simpa using q
      exact ⟨i, rfl⟩
  | false =>
    obtain ⟨b, rfl⟩ := ref_of er ef
    cases (show u = Value.ref b from ry)
    have mu := D.mut
    have nt := D.notup
    obtain ⟨z, hd, xs, hx, rel, dd⟩ := raw_of I.hok D
    have hz : xs.length ≤ sizeLine := by rw [← Paired.length rel]; exact z
    refine wpAny_setItem_heap (hsz := hz) (knd := nestedKind X.prog X.w) (room_in1 hu) (key_is I.hok er) dd fun h' dd' hs => ?_
    rw [storedH_new (atKey_none rel l)] at dd'
    have he : ∃ q, h'.get? a = some q := let ⟨q, _, _, hq, _⟩ := dd'; ⟨q, hq⟩
    have J := d_write (t' := s.toks + (nestedKind X.prog X.w).draws (key r)) (ob := RawD X.prog X.w a (xs ++ [(key r, b, g)])) I mu hs he (raw_new dd')
    have st : Tst H (upd H a (RawD X.prog X.w a (xs ++ [(key r, b, g)]))) := Tst.upd nt
    refine h _ _ J ⟨?_, hd, _, upd_same, ?_⟩
    · rw [List.length_append]
      exact hl
    · exact Paired.snoc (Paired.mapP rel fun _ _ q => q.ts st) ⟨rfl, er.ts st, rv⟩
theorem r_len {Q : Value → Shared → Prop} (I : Inv X pins σ H s) (D : RDict X.prog X.w H a fl kvs) (h : ∀ t s', Inv X pins σ H s' → Q (.int kvs.length t) s') : wpAny (model X.prog X.w) A (call (.builtin "len") [.ref a]) Q E s := by
  cases fl with
  | true =>
    refine d_len I (.inl D.1) fun t s' J => ?_
    rw [List.length_map]
    exact h t s' J
  | false =>
    obtain ⟨z, hd, xs, hx, rel, dd⟩ := raw_of I.hok D
    have hl : xs.length = kvs.length := (Paired.length rel).symm
    have hm : s.heap.DictKeyed (nestedKind X.prog X.w) a (pairsH xs) := ⟨xs, dd, rfl⟩
    refine PyProof.Rows.call_len_slot (n := kvs.length) hm.typeIs F.slot_dict_len (fun Q' hq => ?_) (by omega) (by rw [sizeLine_eq] at z; omega) ?_
    · refine len_keyed hd hm ?_
      rw [pairsH_length, hl]
      exact hq
    · exact h _ _ (I.tok _)
end

/-! ### readings and rules -/
def tRGet (P : Program) (w : World) (td ty : TE) : TE := fun σ H Q => td σ H fun x H1 => ty σ H1 fun y H2 => ∃ a fl kvs r v, x = .ref a ∧ RDict P w H2 a fl kvs ∧ RmAt H2 y r ∧ flat r = fl ∧ valV kvs r = some v ∧ Q v H2
def tRNotIn (P : Program) (w : World) (ty td : TE) : TE := fun σ H Q => ty σ H fun y H1 => td σ H1 fun x H2 => ∃ a fl kvs r, x = .ref a ∧ RDict P w H2 a fl kvs ∧ RmAt H2 y r ∧ flat r = fl ∧ Q (.bl (!(valV kvs r).isSome)) H2
/-- a new key alone -/
def sRPut (P : Program) (w : World) (td ty tv : TE) : L2.TS := fun D σ H => tv σ H fun v H1 => td σ H1 fun x H2 => ty σ H2 fun y H3 => ∃ a fl kvs r, x = .ref a ∧ RDict P w H3 a fl kvs ∧ RmAt H3 y r ∧ flat r = fl ∧ valV kvs r = none ∧ kvs.length < sizeLine ∧
  ∀ o, RDict P w (upd H3 a o) a fl (kvs ++ [(r, v)]) → D.nx σ (upd H3 a o)
def rRLen (P : Program) (w : World) : List V → Hp → VK → Prop := fun xs H Q => ∃ a fl kvs, xs = [.ref a] ∧ RDict P w H a fl kvs ∧ Q (iv kvs.length) H
/-- {}, for rooms that are tuples -/
def tRNew (P : Program) (w : World) : TE := fun _ H Q => ∀ p o, H p = none → RDict P w (upd H p o) p false [] → Q (.ref p) (upd H p o)
/-- {k: v} -/
def tRDisp (P : Program) (w : World) (fl : Bool) (tk tv : TE) : TE := fun σ H Q => ∀ p, H p = none → tk σ (upd H p (.dK [])) fun y H1 => tv σ H1 fun v H2 => H2 p = some (.dK []) ∧ ∃ r, RmAt H2 y r ∧ flat r = fl ∧ ∀ o, RDict P w (upd H2 p o) p fl [(r, v)] → Q (.ref p) (upd H2 p o)
section
variable {X : Cx} {o i e value : Expr} {pos pos' : Pos} {td ty tv : TE} {k : Nat}
theorem pe_rget (hr : Room k X.A) (ho : PE X o td) (hi : PE X i ty) (hs : NoSl i) : PE X (.Subscript o i pos) (tRGet X.prog X.w td ty) := by
  refine ⟨fun pins s σ H Q I h => ?_⟩
  refine subD_of PySem.F.slot_dict_getitem.lookup hs (thn (ho.run pins s σ H _ I h) fun u s1 ⟨x, H1, I1, rx, q1⟩ => thn (hi.run pins s1 σ H1 _ I1 q1) fun iv s2 ⟨y, H2, I2, ry, a, fl, kvs, r, v, ex, D, er, ef, l, q2⟩ => ?_)
  subst ex
  obtain rfl : u = Value.ref a := rx
  refine ⟨?_, r_getItem hr.units I2 D er ef l ry fun w' s3 I3 rw' => ⟨v, H2, I3, rw', q2⟩⟩
  cases fl with
  | true =>
    obtain ⟨_, _, vs, _, dd⟩ := dk_of I2.hok D.1
    exact dd.typeIs
  | false =>
    obtain ⟨_, _, xs, _, _, dd⟩ := raw_of I2.hok D
    exact dd.typeIs
theorem pc_rnotin (hr : Room k X.A) (hi : PE X i ty) (ho : PE X o td) : PC X .NotIn i o (tRNotIn X.prog X.w ty td) := by
  refine ⟨fun pins s σ H Q I h => ?_⟩
  refine thn (hi.run pins s σ H _ I h) fun iv s1 ⟨y, H1, I1, ry, q1⟩ => thn (ho.run pins s1 σ H1 _ I1 q1) fun u s2 ⟨x, H2, I2, rx, a, fl, kvs, r, ex, D, er, ef, q2⟩ => ?_
  subst ex
  obtain rfl : u = Value.ref a := rx
  exact r_notIn hr.units I2 D er ef ry fun s3 I3 => ⟨.bl (!(valV kvs r).isSome), H2, I3, rfl, q2⟩
theorem ps_rput (hr : Room k X.A) (ho : PE X o td) (hi : PE X i ty) (hv : PE X value tv) (hs : swapsWith value (some (.Subscript o i pos')) pos.line X.env = pure false) :
    PS X (.Assign [.Subscript o i pos'] value pos) (sRPut X.prog X.w td ty tv) := by
  refine ⟨fun pins s σ H D I h => ?_⟩
  refine wpAny_Assign_Subscript (thn (hv.run pins s σ H _ I h) fun r s1 ⟨v, H1, I1, rv, q1⟩ => thn (ho.run pins s1 σ H1 _ I1 q1) fun u s2 ⟨x, H2, I2, rx, q2⟩ => thn (hi.run pins s2 σ H2 _ I2 q2) fun iv s3 ⟨y, H3, I3, ry, a, fl, kvs, rr, ex, DD, er, ef, l, hl, q3⟩ => ?_) hs
  subst ex
  obtain rfl : u = Value.ref a := rx
  exact r_setItem hr.units I3 DD er ef l hl ry rv fun o s4 I4 d => ⟨σ, _, I4, q3 o d⟩
theorem call_lenR : CallR X (.builtin "len") (rRLen X.prog X.w) := by
  intro pins s σ H xs us Q I r h
  obtain ⟨a, fl, kvs, rfl, D, q⟩ := h
  obtain ⟨u, rfl, ru⟩ := vals1 r
  cases ru
  exact r_len I D fun t s' I' => ⟨iv kvs.length, H, I', ⟨t, rfl⟩, q⟩
theorem raw_empty {P : Program} {w : World} {H : Hp} (h : Heap) : ObjOk P w H (h.push { cls := .type "dict", data := .dict #[] }) h.objs.size (RawD P w h.objs.size []) := raw_new (Heap.DictOfH.new h)
theorem pe_rnew : PE X (.Dict [] [] pos) (tRNew X.prog X.w) := ⟨fun pins s σ H Q I h => by
  have hb : (s.heap.objs.size == sysModules) = false := beq_eq_false_iff_ne.mpr (Ne.symm (Nat.ne_of_lt I.big))
  refine wpAny_Dict_empty ⟨.ref s.heap.objs.size, _, I.laid (a := s.heap.objs.size) (o := RawD X.prog X.w s.heap.objs.size []) (t' := s.toks) (fun _ _ q => Heap.get?_push_of_some _ q) (Nat.le_refl _) (raw_empty s.heap), rfl, h _ _ (I.hok.fresh (Nat.le_refl _)) ⟨Nat.zero_le _, hb, [], upd_same, .nil⟩⟩⟩
theorem pe_rdisp (fl : Bool) (hr : Room k X.A) (hi : PE X i ty) (hv : PE X value tv) : PE X (.Dict [some i] [value] pos) (tRDisp X.prog X.w fl ty tv) := by
  refine ⟨fun pins s σ H Q I q => ?_⟩
  have hn := I.hok.fresh (Nat.le_refl s.heap.objs.size)
  have I1 := I.laid (a := s.heap.objs.size) (o := .dK []) (h' := s.heap.push { cls := .type "dict", data := .dict #[] }) (t' := s.toks) (fun _ _ q => Heap.get?_push_of_some _ q) (Nat.le_refl _) (dk_empty s.heap I.big)
  have hq := q _ hn
  cases fl with
  | true =>
    refine wpAny_Dict_walk (knd := mixKind X.prog X.w) rfl rfl (by simp) (by show 1 ≤ 15; decide) (pairTrees_cons_walk (thn (hi.run pins _ σ _ _ I1 hq) fun u s2 ⟨y, H1, I2, ry, q2⟩ => thn (hv.run pins _ σ _ _ I2 q2) fun g s3 ⟨v, H2, I3, rv, e, r, er, ef, q3⟩ => pairTrees_nil_walk ?_))
    obtain ⟨i, rfl, rfl⟩ := one_of er ef
    obtain ⟨z, hd, vs0, r0, dd⟩ := dk_of I3.hok e
    cases r0
    have c : Carries (mixKind X.prog X.w) [(u, g)] [((Sum.inl (i : Int) : Key), g)] := ⟨kV_is (k := .inl (i : Int)) ry, rfl, True.intro⟩
    refine ⟨_, c, dd, fun h' dd' hs => ?_⟩
    have he : ∃ q, h'.get? s.heap.objs.size = some q := let ⟨q, _, _, hq, _⟩ := dd'; ⟨q, hq⟩
    have rel : KV (([(Rm.one i, v)] : List (Rm × V)).map fun p => ((Sum.inl (p.1.nr : Int) : Key), p.2)) (merged [] [((Sum.inl (i : Int) : Key), g)]) := .cons ⟨rfl, rv⟩ .nil
    have J := d_write (t' := s3.toks + [(u, g)].length) (ob := .dK (([(Rm.one i, v)] : List (Rm × V)).map fun p => ((Sum.inl (p.1.nr : Int) : Key), p.2))) I3 (by rw [e]; exact True.intro) hs he (dk_new (by show 1 ≤ sizeLine; decide) hd rel dd')
    refine ⟨.ref s.heap.objs.size, _, J, rfl, q3 _ ⟨upd_same, fun p hp => ?_⟩⟩
    obtain rfl : p = (Rm.one i, v) := by simpa using hp
    exact ⟨i, rfl⟩
  | false =>
    have hu : (nestedKind X.prog X.w).room X.A := by
      have := hr.units
      show X.A.units + 8 < cLine
      omega
    have hsh : (evalEachOpt [some i] X.env).zip ((evalEach [value] X.env).map fun v => do let x ← v; standAt pos; pure x) = (pairTrees [some i] [value] X.env pos).map fun p => (some p.1, p.2) := zip_pairTrees [some i] [value] X.env pos rfl rfl
    have hpl : (pairTrees [some i] [value] X.env pos).length = 1 := pairTrees_length [some i] [value] X.env pos rfl rfl
    have h0 : pairTrees [some i] [value] X.env pos ≠ [] := fun z => by rw [z] at hpl; cases hpl
    rw [arm_eval_Dict, hsh, dictDisplay_pairs _ h0 (by rw [hpl]; decide)]
    refine wpAny_bind (wpAny_standAt (wpAny_bind (wpAny_subDictH (knd := nestedKind X.prog X.w) hu (by rw [hpl]; decide) (pairTrees_cons_walk (thn (hi.run pins _ σ _ _ I1 hq) fun u s2 ⟨y, H1, I2, ry, q2⟩ => thn (hv.run pins _ σ _ _ I2 q2) fun g s3 ⟨v, H2, I3, rv, e, r, er, ef, q3⟩ => pairTrees_nil_walk ?_)))))
    obtain ⟨b, rfl⟩ := ref_of er ef
    cases (show u = Value.ref b from ry)
    obtain ⟨z, hd, vs0, r0, dd⟩ := dk_of I3.hok e
    cases r0
    have d0 : s3.heap.DictOfH (nestedKind X.prog X.w) s.heap.objs.size [] := by
      obtain ⟨o, es, ep, a1, a2, a3, _, a5, _⟩ := dd
      have e0 : es.toList = [] := by
        cases q : es.toList with
        | nil => rfl
        | cons x l => rw [q] at a5; cases a5
      exact ⟨o, es, ep, a1, a2, a3, e0, fun x hx => absurd hx (by simp), List.nodup_nil⟩
    refine ⟨[(key r, b, g)], ⟨rfl, rfl, key_is I3.hok er, True.intro⟩, d0, fun h' tk dd' hs => wpAny_pure ?_⟩
    have dd2 : h'.DictOfH (nestedKind X.prog X.w) s.heap.objs.size [(key r, b, g)] := dd'
    have he : ∃ q, h'.get? s.heap.objs.size = some q := let ⟨q, _, _, hq, _⟩ := dd2; ⟨q, hq⟩
    have J := d_write (t' := tk) (ob := RawD X.prog X.w s.heap.objs.size [(key r, b, g)]) I3 (by rw [e]; exact True.intro) hs he (raw_new dd2)
    have st : Tst H2 (upd H2 s.heap.objs.size (RawD X.prog X.w s.heap.objs.size [(key r, b, g)])) := Tst.upd fun xs q => by
      rw [e] at q
      cases q
    exact ⟨.ref s.heap.objs.size, _, J, rfl, q3 _ ⟨by show 1 ≤ sizeLine; decide, hd, _, upd_same, .cons ⟨rfl, er.ts st, rv⟩ .nil⟩⟩
end
end Cw
set_option Elab.async false
set_option linter.all false
set_option maxRecDepth 100000
set_option maxHeartbeats 4000000
/-! Machines as values; lists made by comprehensions; small steps. -/
namespace Cw
open PySem PySem.Spec PyProof.Rows L2 Kw
def NumsAt (H : Hp) (v : V) (ns : List Nat) : Prop := ∃ p, v = .ref p ∧ H p = some (.tup (ns.map iv))
def BlsAt (H : Hp) (v : V) (bs : List Bool) : Prop := ∃ p, v = .ref p ∧ H p = some (.tup (bs.map V.bl))
def MvAt (H : Hp) (v : V) (mv : List (List Nat)) : Prop := ∃ p vs, v = .ref p ∧ H p = some (.tup vs) ∧ Paired (NumsAt H) vs mv
def McAt (H : Hp) (v : V) (ls : Str) (m : Mc) : Prop := ∃ p x y, v = .ref p ∧ H p = some (.tup [.str ls, x, y]) ∧ MvAt H x m.mv ∧ BlsAt H y m.ys
section
variable {H H' : Hp} {v : V}
theorem NumsAt.tst {ns : List Nat} (h : NumsAt H v ns) (s : Tst H H') : NumsAt H' v ns := let ⟨p, e, q⟩ := h; ⟨p, e, s _ _ q⟩
theorem BlsAt.tst {bs : List Bool} (h : BlsAt H v bs) (s : Tst H H') : BlsAt H' v bs := let ⟨p, e, q⟩ := h; ⟨p, e, s _ _ q⟩
theorem MvAt.tst {mv : List (List Nat)} (h : MvAt H v mv) (s : Tst H H') : MvAt H' v mv := let ⟨p, vs, e, q, r⟩ := h; ⟨p, vs, e, s _ _ q, Paired.mapP r fun _ _ z => z.tst s⟩
theorem McAt.tst {ls : Str} {m : Mc} (h : McAt H v ls m) (s : Tst H H') : McAt H' v ls m := let ⟨p, x, y, e, q, a, b⟩ := h; ⟨p, x, y, e, s _ _ q, a.tst s, b.tst s⟩
theorem paired_get {α β : Type} {R : α → β → Prop} : ∀ {l : List α} {m : List β}, Paired R l m → ∀ (i : Nat) (b : β), m[i]? = some b → ∃ a, l[i]? = some a ∧ R a b
  | _, _, .nil, i, b, h => by simp at h
  | _, _, .cons r t, 0, b, h => by
    have e := Option.some.inj h
    subst e
    exact ⟨_, rfl, r⟩
  | _, _, .cons r t, i + 1, b, h => paired_get t i b h
theorem paired_getL {α β : Type} {R : α → β → Prop} : ∀ {l : List α} {m : List β}, Paired R l m → ∀ (i : Nat) (a : α), l[i]? = some a → ∃ b, m[i]? = some b ∧ R a b
  | _, _, .nil, i, b, h => by simp at h
  | _, _, .cons r t, 0, b, h => by
    have e := Option.some.inj h
    subst e
    exact ⟨_, rfl, r⟩
  | _, _, .cons r t, i + 1, b, h => paired_getL t i b h
theorem paired_of {α β : Type} {R : α → β → Prop} : ∀ {l : List α} {m : List β}, l.length = m.length → (∀ (i : Nat) (a : α) (b : β), l[i]? = some a → m[i]? = some b → R a b) → Paired R l m
  | [], [], _, _ => .nil
  | [], _ :: _, h, _ => by cases h
  | _ :: _, [], h, _ => by cases h
  | a :: l, b :: m, h, q => .cons (q 0 a b rfl rfl) (paired_of (Nat.succ.inj h) fun i x y e1 e2 => q (i + 1) x y e1 e2)
theorem MvAt.row {mv : List (List Nat)} (h : MvAt H v mv) : ∃ p vs, v = .ref p ∧ H p = some (.tup vs) ∧ vs.length = mv.length ∧ ∀ (i : Nat) row, mv[i]? = some row → ∃ q, vs[i]? = some (.ref q) ∧ H q = some (.tup (row.map iv)) := by
  obtain ⟨p, vs, e, q, r⟩ := h
  refine ⟨p, vs, e, q, Paired.length r, fun i row hi => ?_⟩
  obtain ⟨a, ha, q, eq, hq⟩ := paired_get r i row hi
  exact ⟨q, by rw [ha, eq], hq⟩
end
theorem iv_get {ns : List Nat} {i n : Nat} (h : ns[i]? = some n) : (ns.map iv)[i]? = some (iv n) := by
  rw [List.getElem?_map, h]
  rfl
theorem bl_get {bs : List Bool} {i : Nat} {b : Bool} (h : bs[i]? = some b) : (bs.map V.bl)[i]? = some (.bl b) := by
  rw [List.getElem?_map, h]
  rfl
section
variable {K : PySem.W.Frag} {H H' : Hp} {Q : VK}
/-- t[i], t a tuple that is tracked; l[i], l a list -/
theorem at_tup {p : Addr} {xs : List V} {i : Nat} {v : V} (h : H p = some (.tup xs)) (e : xs[i]? = some v) (q : Q v H) : rIxT K (.ref p) (iv i) H Q := ⟨p, xs, i, v, rfl, rfl, SqT.of h, atI_nat e, q⟩
theorem at_lst {p : Addr} {xs : List V} {i : Nat} {v : V} (h : H p = some (.lst xs)) (e : xs[i]? = some v) (q : Q v H) : rIxL K (.ref p) (iv i) H Q := ⟨p, xs, i, v, rfl, rfl, SqL.of h, atI_nat e, q⟩
theorem len_lst {p : Addr} {xs : List V} (h : H p = some (.lst xs)) (q : Q (.int xs.length) H) : ∃ p' ys, [V.ref p] = [.ref p'] ∧ (SqL K H p' ys ∨ SqT K H p' ys) ∧ Q (.int ys.length) H := ⟨p, xs, rfl, .inl (SqL.of h), q⟩
theorem len_tup {p : Addr} {xs : List V} (h : H p = some (.tup xs)) (q : Q (.int xs.length) H) : ∃ p' ys, [V.ref p] = [.ref p'] ∧ (SqL K H p' ys ∨ SqT K H p' ys) ∧ Q (.int ys.length) H := ⟨p, xs, rfl, .inr (SqT.of h), q⟩
theorem app_lst {l : Addr} {xs : List V} {y : V} (h : H l = some (.lst xs)) (z : xs.length < sizeLine) (q : Q .non (upd H l (.lst (xs ++ [y])))) : rAppend (.ref l) [y] H Q := ⟨l, xs, y, rfl, rfl, h, z, q⟩
theorem tup_of_lst {p : Addr} {xs : List V} (h : H p = some (.lst xs)) (q : ∀ l, H l = none → Q (.ref l) (upd H l (.tup xs))) : ∃ p' ys, [V.ref p] = [.ref p'] ∧ ((SqL K H p' ys ∧ ∀ l, H l = none → Q (.ref l) (upd H l (.tup ys))) ∨ (SqT K H p' ys ∧ Q (.ref p') H)) := ⟨p, xs, rfl, .inl ⟨SqL.of h, q⟩⟩
end
/-- a test of which both answers may be -/
theorem iteB {c : Bool} {A B : Prop} (h : c = true → A) (h' : c = false → B) : if c = true then A else B := by
  cases c with
  | true => exact iteT (h rfl)
  | false => exact iteF (h' rfl)
theorem iteP {c : Bool} {A B : Prop} (e : c = true) (h : A) : if c = true then A else B := by
  rw [e]
  exact iteT h
theorem iteN {c : Bool} {A B : Prop} (e : c = false) (h : B) : if c = true then A else B := by
  rw [e]
  exact iteF h
theorem small {n : Nat} (h : n ≤ 100000) : n < sizeLine := Nat.lt_of_le_of_lt h (by decide)
theorem small' {n : Nat} (h : n ≤ 100000) : n ≤ sizeLine := Nat.le_of_lt (small h)
theorem ts_lst {H : Hp} {D : Addr} {xs : List V} {u : HO} (h : H D = some (.lst xs)) : Tst H (upd H D u) := Tst.upd fun ys q => by
  rw [h] at q
  cases q
theorem ts_ne {H : Hp} {D p : Addr} {xs ys : List V} (h : H D = some (.lst xs)) (q : H p = some (.tup ys)) : p ≠ D := fun e => by
  rw [e, h] at q
  cases q
/-! ### a list made item by item -/
section
variable {K : PySem.W.Frag} {a : Addr} {xs : List V} {g : TG} {tt : TT} {te : TE} {vs : List Nat} {σ : L2.St} {H1 : Hp} {D : Addr} {Qd : Hp → Prop}
/-- what is to be shown of the turn of a comprehension without tests; R: what is wanted of the item -/
def TurnOk (g : TG) (te : TE) (vs : List Nat) (σ : L2.St) (H1 : Hp) (D : Addr) (F : Nat → V → Hp → Prop) (i : Nat) (x : V) : Prop :=
  ∀ (H : Hp) (R : VK) (S : Hp → Prop), Same H1 H → (∀ y H4, Same H H4 → F i y H4 → R y H4) →
    g x (wipe σ vs) H fun σ2 H2 => wipe σ2 vs = wipe σ vs ∧ tYes σ2 H2 fun b H3 => if b = true then te σ2 H3 R else S H3
def LcInv (H1 : Hp) (D : Addr) (F : Nat → V → Hp → Prop) (i : Nat) (H : Hp) : Prop := Same H1 H ∧ ∃ acc, H D = some (.lst acc) ∧ acc.length = i ∧ ∀ j y, acc[j]? = some y → F j y H
theorem LcInv.next {F : Nat → V → Hp → Prop} (hF : ∀ i y H H', F i y H → Tst H H' → F i y H') (hn : H1 D = none) {i : Nat} {H H4 : Hp} {y : V} (p : LcInv H1 D F i H) (s : Same H H4) (f : F i y H4) (hi : i < sizeLine) :
    ∃ acc, H4 D = some (.lst acc) ∧ acc.length < sizeLine ∧ LcInv H1 D F (i + 1) (upd H4 D (.lst (acc ++ [y]))) := by
  obtain ⟨s0, acc, e, l, fa⟩ := p
  have e4 := s _ _ e
  refine ⟨acc, e4, by rw [l]; exact hi, (s0.trans s).upd hn, _, upd_same, by simp [l], fun j z ej => ?_⟩
  have st : Tst H4 (upd H4 D (.lst (acc ++ [y]))) := ts_lst e4
  by_cases hj : j < acc.length
  · rw [List.getElem?_append_left hj] at ej
    exact hF _ _ _ _ (fa j z ej) (s.tst.trans st)
  · have hj2 : j = i := by
      have := (List.getElem?_eq_some_iff.mp ej).1
      rw [List.length_append, List.length_singleton] at this
      omega
    subst hj2
    rw [List.getElem?_append_right (by omega), l, Nat.sub_self] at ej
    have := Option.some.inj ej
    subst this
    exact hF _ _ _ _ f st
theorem lc_of_list (F : Nat → V → Hp → Prop) (hF : ∀ i y H H', F i y H → Tst H H' → F i y H') (hn : H1 D = none) (hsq : ∀ H, Same H1 H → SqL K H a xs) (hz : xs.length ≤ sizeLine)
    (hs : ∀ i x, xs[i]? = some x → TurnOk g te vs σ H1 D F i x) (hd : ∀ H ys, Same H1 H → H D = some (.lst ys) → ys.length = xs.length → (∀ j y, ys[j]? = some y → F j y H) → Qd H) :
    ∃ W : Nat → Nat → Hp → Prop, (∃ m, W 0 m (upd H1 D (.lst []))) ∧ ∀ i m H, W i m H →
      ((Itl K a).stop i H ∧ Qd H) ∨ ((Itl K a).go i H ∧ ∃ Nx : Hp → Prop, (∀ H', Nx H' → ∃ m', m' < m ∧ W (i + 1) m' H') ∧ ∀ x H', (Itl K a).yld i H x H' → g x (wipe σ vs) H' fun σ2 H2 => wipe σ2 vs = wipe σ vs ∧ tYes σ2 H2 fun b H3 =>
        if b = true then te σ2 H3 fun y H4 => ∃ acc, H4 D = some (.lst acc) ∧ acc.length < sizeLine ∧ Nx (upd H4 D (.lst (acc ++ [y]))) else Nx H3) := by
  refine lc_list (K := K) (a := a) (xs := xs) (D := D) (σ := σ) (vs := vs) (g := g) (tt := tYes) (te := te) (LcInv H1 D F) ⟨Same.new hn, [], upd_same, rfl, fun j y e => by simp at e⟩ (fun i H _ p => hsq H p.1) (fun i x H hx p => ?_) (fun H p => ?_)
  · have hi := (List.getElem?_eq_some_iff.mp hx).1
    exact hs i x hx H _ _ p.1 fun y H4 s4 f4 => LcInv.next hF hn p s4 f4 (by omega)
  · obtain ⟨s, acc, e, l, f⟩ := p
    exact hd H acc s e l f
theorem lc_of_tup (F : Nat → V → Hp → Prop) (hF : ∀ i y H H', F i y H → Tst H H' → F i y H') (hn : H1 D = none) (hsq : ∀ H, Same H1 H → SqT K H a xs) (hz : xs.length ≤ sizeLine)
    (hs : ∀ i x, xs[i]? = some x → TurnOk g te vs σ H1 D F i x) (hd : ∀ H ys, Same H1 H → H D = some (.lst ys) → ys.length = xs.length → (∀ j y, ys[j]? = some y → F j y H) → Qd H) :
    ∃ W : Nat → Nat → Hp → Prop, (∃ m, W 0 m (upd H1 D (.lst []))) ∧ ∀ i m H, W i m H →
      ((Itt K a).stop i H ∧ Qd H) ∨ ((Itt K a).go i H ∧ ∃ Nx : Hp → Prop, (∀ H', Nx H' → ∃ m', m' < m ∧ W (i + 1) m' H') ∧ ∀ x H', (Itt K a).yld i H x H' → g x (wipe σ vs) H' fun σ2 H2 => wipe σ2 vs = wipe σ vs ∧ tYes σ2 H2 fun b H3 =>
        if b = true then te σ2 H3 fun y H4 => ∃ acc, H4 D = some (.lst acc) ∧ acc.length < sizeLine ∧ Nx (upd H4 D (.lst (acc ++ [y]))) else Nx H3) := by
  refine lc_tup (K := K) (a := a) (xs := xs) (D := D) (σ := σ) (vs := vs) (g := g) (tt := tYes) (te := te) (LcInv H1 D F) ⟨Same.new hn, [], upd_same, rfl, fun j y e => by simp at e⟩ (fun i H _ p => hsq H p.1) (fun i x H hx p => ?_) (fun H p => ?_)
  · have hi := (List.getElem?_eq_some_iff.mp hx).1
    exact hs i x hx H _ _ p.1 fun y H4 s4 f4 => LcInv.next hF hn p s4 f4 (by omega)
  · obtain ⟨s, acc, e, l, f⟩ := p
    exact hd H acc s e l f
theorem lc_of_range {lo : Int} {n : Nat} (F : Nat → V → Hp → Prop) (hF : ∀ i y H H', F i y H → Tst H H' → F i y H') (hn : H1 D = none) (hz : n ≤ sizeLine)
    (hs : ∀ i, i < n → TurnOk g te vs σ H1 D F i (.int (lo + i))) (hd : ∀ H ys, Same H1 H → H D = some (.lst ys) → ys.length = n → (∀ j y, ys[j]? = some y → F j y H) → Qd H) :
    ∃ W : Nat → Nat → Hp → Prop, (∃ m, W 0 m (upd H1 D (.lst []))) ∧ ∀ i m H, W i m H →
      ((Itr lo n).stop i H ∧ Qd H) ∨ ((Itr lo n).go i H ∧ ∃ Nx : Hp → Prop, (∀ H', Nx H' → ∃ m', m' < m ∧ W (i + 1) m' H') ∧ ∀ x H', (Itr lo n).yld i H x H' → g x (wipe σ vs) H' fun σ2 H2 => wipe σ2 vs = wipe σ vs ∧ tYes σ2 H2 fun b H3 =>
        if b = true then te σ2 H3 fun y H4 => ∃ acc, H4 D = some (.lst acc) ∧ acc.length < sizeLine ∧ Nx (upd H4 D (.lst (acc ++ [y]))) else Nx H3) := by
  refine lc_range (lo := lo) (n := n) (D := D) (σ := σ) (vs := vs) (g := g) (tt := tYes) (te := te) (LcInv H1 D F) ⟨Same.new hn, [], upd_same, rfl, fun j y e => by simp at e⟩ (fun i H hi p => ?_) (fun H p => ?_)
  · exact hs i hi H _ _ p.1 fun y H4 s4 f4 => LcInv.next hF hn p s4 f4 (by omega)
  · obtain ⟨s, acc, e, l, f⟩ := p
    exact hd H acc s e l f
end
/-- a while, its measure told beside the invariant -/
theorem while_m {c : L2.TT} {tb : L2.TS} {D : Ends} {σ : L2.St} {H : Hp} (Pv : Nat → L2.St → Hp → Prop) (h0 : ∃ m, Pv m σ H)
    (hs : ∀ m σ H, Pv m σ H → c σ H fun b H1 => if b = true then ∃ N : L2.St → Hp → Prop, (∀ σ' H', N σ' H' → ∃ m', m' < m ∧ Pv m' σ' H') ∧ tb { D with nx := N, ct := N, bk := D.nx } σ H1 else D.nx σ H1) : tWhile c tb D σ H := ⟨Pv, h0, hs⟩
/-! ### dicts told -/
section
variable {α : Type} [DecidableEq α]
/-- items with their places -/
def idxD (l : List α) : List (α × V) := l.zipIdx.map fun p => (p.1, iv p.2)
theorem idxD_len (l : List α) : (idxD l).length = l.length := by simp [idxD]
theorem idxD_snoc (l : List α) (x : α) : idxD (l ++ [x]) = idxD l ++ [(x, iv l.length)] := by
  unfold idxD
  rw [List.zipIdx_append, List.map_append]
  simp
theorem look_idx' (k : α) : ∀ (l : List α) (n : Nat), valV ((l.zipIdx n).map fun p => (p.1, iv p.2)) k = if k ∈ l then some (iv (n + l.idxOf k)) else none
  | [], n => by simp [valV]
  | x :: l, n => by
    rw [List.zipIdx_cons, List.map_cons]
    by_cases e : x = k
    · rw [valV_pos e, if_pos (by rw [e]; exact List.mem_cons_self), List.idxOf_cons, e]
      simp
    · rw [valV_neg e, look_idx' k l (n + 1), List.idxOf_cons]
      have hb : (x == k) = false := beq_eq_false_iff_ne.mpr e
      have hm : (k ∈ x :: l) ↔ k ∈ l := by
        rw [List.mem_cons]
        exact ⟨fun z => z.resolve_left fun q => e q.symm, .inr⟩
      by_cases q : k ∈ l
      · rw [if_pos q, if_pos (hm.mpr q), hb]
        congr 2
        show n + 1 + l.idxOf k = n + (l.idxOf k + 1)
        omega
      · rw [if_neg q, if_neg fun z => q (hm.mp z)]
theorem look_idx (l : List α) (k : α) : valV (idxD l) k = if k ∈ l then some (iv (l.idxOf k)) else none := by
  have := look_idx' k l 0
  rw [Nat.zero_add] at this
  exact this
theorem idxOf_pre {l m : List α} (h : l <+: m) {x : α} (hx : x ∈ l) : m.idxOf x = l.idxOf x := by
  obtain ⟨t, rfl⟩ := h
  rw [List.idxOf_append, if_pos hx]
theorem idxOf_inj {l : List α} {x y : α} (hx : x ∈ l) (hy : y ∈ l) (h : l.idxOf x = l.idxOf y) : x = y := by
  have e1 := List.getElem_idxOf (List.idxOf_lt_length_of_mem hx)
  have e2 := List.getElem_idxOf (List.idxOf_lt_length_of_mem hy)
  rw [← e1, ← e2]
  congr 1
end
/-- classes told by a dict -/
abbrev clsD (l : List Nat) (c : Nat → Nat) : List (L2.Key × V) := l.map fun (i : Nat) => ((.inl (i : Int) : L2.Key), iv (c i))
theorem look_cls (c : Nat → Nat) : ∀ (l : List Nat) (t : Nat), valV (clsD l c) (.inl (t : Int)) = if t ∈ l then some (iv (c t)) else none
  | [], t => by simp [clsD, valV]
  | x :: l, t => by
    show valV ((.inl (x : Int), iv (c x)) :: clsD l c) _ = _
    by_cases e : x = t
    · rw [valV_pos (by rw [e]), if_pos (by rw [e]; exact List.mem_cons_self), e]
    · rw [valV_neg (fun z => e (Int.ofNat_inj.mp (Sum.inl.inj z))), look_cls c l t]
      have hm : (t ∈ x :: l) ↔ t ∈ l := by
        rw [List.mem_cons]
        exact ⟨fun z => z.resolve_left fun q => e q.symm, .inr⟩
      by_cases q : t ∈ l
      · rw [if_pos q, if_pos (hm.mpr q)]
      · rw [if_neg q, if_neg fun z => q (hm.mp z)]
theorem merge_nodup : ∀ (kvs acc : List (L2.Key × V)), ((acc ++ kvs).map (·.1)).Nodup → mergeK acc kvs = acc ++ kvs
  | [], acc, _ => by rw [List.append_nil]; rfl
  | p :: kvs, acc, h => by
    have hp : valV acc p.1 = none := by
      cases e : valV acc p.1 with
      | none => rfl
      | some v =>
        exfalso
        unfold valV at e
        obtain ⟨q, hq, _⟩ := Option.map_eq_some_iff.mp e
        have h1 := List.mem_of_find?_eq_some hq
        have h2 : q.1 = p.1 := by simpa using List.find?_some hq
        rw [List.map_append, List.map_cons, List.nodup_append] at h
        exact h.2.2 q.1 (List.mem_map_of_mem h1) p.1 List.mem_cons_self h2
    show mergeK (putK acc p.1 p.2) kvs = _
    rw [putK_new _ hp, merge_nodup kvs (acc ++ [(p.1, p.2)]) (by rw [List.append_assoc]; exact h), List.append_assoc]
    rfl
theorem clsD_nodup {l : List Nat} (h : l.Nodup) (c : Nat → Nat) : ((clsD l c).map (·.1)).Nodup := by
  rw [List.map_map, List.nodup_iff_pairwise_ne, List.pairwise_map]
  exact h.imp fun hne e => hne (Int.ofNat_inj.mp (Sum.inl.inj e))
/-- items that are all things at addresses -/
theorem refs_list {G : Nat → Addr → Prop} : ∀ {ys : List V}, (∀ (j : Nat) (y : V), ys[j]? = some y → ∃ t, y = .ref t ∧ G j t) → ∃ ps : List Addr, ys = ps.map V.ref ∧ ∀ (j : Nat) (t : Addr), ps[j]? = some t → G j t := by
  intro ys
  suffices h : ∀ (n : Nat) (ys : List V), (∀ (j : Nat) (y : V), ys[j]? = some y → ∃ t, y = .ref t ∧ G (n + j) t) → ∃ ps : List Addr, ys = ps.map V.ref ∧ ∀ (j : Nat) (t : Addr), ps[j]? = some t → G (n + j) t by
    intro q
    obtain ⟨ps, h1, h2⟩ := h 0 ys fun j y e => by rw [Nat.zero_add]; exact q j y e
    exact ⟨ps, h1, fun j t e => by have := h2 j t e; rw [Nat.zero_add] at this; exact this⟩
  intro n ys
  induction ys generalizing n with
  | nil => intro _; exact ⟨[], rfl, fun j t e => by simp at e⟩
  | cons y ys ih =>
    intro q
    obtain ⟨t, rfl, ht⟩ := q 0 y rfl
    obtain ⟨ps, rfl, hps⟩ := ih (n + 1) fun j y e => by
      obtain ⟨t, h1, h2⟩ := q (j + 1) y e
      exact ⟨t, h1, by rw [show n + 1 + j = n + (j + 1) by omega]; exact h2⟩
    refine ⟨t :: ps, rfl, fun j u e => ?_⟩
    cases j with
    | zero => cases e; exact ht
    | succ j => rw [show n + (j + 1) = n + 1 + j by omega]; exact hps j u e
/-- a list of which each item is told, told as a whole -/
theorem all_map {α : Type} {f : α → V} {ys : List V} {zs : List α} (l : ys.length = zs.length) (h : ∀ (j : Nat) (y : V), ys[j]? = some y → ∀ z, zs[j]? = some z → y = f z) : ys = zs.map f := by
  refine List.ext_getElem (by simp [l]) fun i h1 h2 => ?_
  rw [List.getElem_map]
  exact h i _ (List.getElem?_eq_getElem h1) _ (List.getElem?_eq_getElem (by rw [← l]; exact h1))
/-! ### rules told with the written part named, for the blocks of comprehensions -/
def rTupOf (K : PySem.W.Frag) : List V → Hp → VK → Prop := fun xs H Q => ∃ p ys, xs = [.ref p] ∧ ((SqL K H p ys ∧ ∀ l, H l = none → Q (.ref l) (upd H l (.tup ys))) ∨ (SqT K H p ys ∧ Q (.ref p) H))
def rLenS (K : PySem.W.Frag) : List V → Hp → VK → Prop := fun xs H Q => ∃ p ys, xs = [.ref p] ∧ (SqL K H p ys ∨ SqT K H p ys) ∧ Q (.int ys.length) H
section
variable {X : Cx}
theorem ixT (K : PySem.W.Frag) (h : X.K = K := by rfl) : IxR X (rIxT K) := by
  subst h
  exact ix_tup
theorem ixL (K : PySem.W.Frag) (h : X.K = K := by rfl) : IxR X (rIxL K) := by
  subst h
  exact ix_list
theorem tupOf (K : PySem.W.Frag) (h : X.K = K := by rfl) : CallR X (.type "tuple") (rTupOf K) := by
  subst h
  exact call_tuple_of
theorem lenS (K : PySem.W.Frag) (h : X.K = K := by rfl) : CallR X (.builtin "len") (rLenS K) := by
  subst h
  exact call_len_seq
theorem piT (K : PySem.W.Frag) {tg e : Expr} {te : TE} (he : PE X e te) (h : X.K = K := by rfl) : PI X tg e (iTup K te) := by
  subst h
  exact pi_tup he
theorem piL (K : PySem.W.Frag) {tg e : Expr} {te : TE} (he : PE X e te) (h : X.K = K := by rfl) : PI X tg e (iList K te) := by
  subst h
  exact pi_list he
end
theorem bInt : bootBuiltins "int" = some (.type "int") := by decide +kernel
theorem bDict : bootBuiltins "dict" = some (.type "dict") := by decide +kernel
theorem bTuple : bootBuiltins "tuple" = some (.type "tuple") := by decide +kernel
theorem bList : bootBuiltins "list" = some (.type "list") := by decide +kernel
theorem bSet : bootBuiltins "set" = some (.type "set") := by decide +kernel
theorem bSorted : bootBuiltins "sorted" = some (.builtin "sorted") := by decide +kernel
theorem bAny : bootBuiltins "any" = some (.builtin "any") := by decide +kernel
theorem bAll : bootBuiltins "all" = some (.builtin "all") := by decide +kernel
end Cw
set_option Elab.async false
set_option linter.all false
set_option maxRecDepth 100000
set_option maxHeartbeats 4000000
/-! set(xs) and len(set(xs)) of a list of whole numbers. -/
namespace Cw
open PySem PySem.Spec PyProof.Rows L2 Kw
/-! ### how many unlike ones -/
theorem dedup_push (acc : List Int) (x : Int) : step_dedup acc x = push acc x := by
  unfold step_dedup push
  by_cases h : x ∈ acc
  · rw [if_pos h, if_pos (List.any_eq_true.mpr ⟨x, h, by simp⟩)]
  · rw [if_neg h, if_neg fun z => by
      obtain ⟨y, hy, e⟩ := List.any_eq_true.mp z
      exact h (by rw [← eq_of_beq e]; exact hy)]
theorem firstMet_once (ns : List Int) : firstMet (fun i => ns.getD i 0) ns.length = once ns := by
  have e : (List.range ns.length).map (fun i => ns.getD i 0) = ns := by
    refine List.ext_getElem (by simp) fun i h1 h2 => ?_
    rw [List.getElem_map, List.getElem_range, List.getD_eq_getElem?_getD, List.getElem?_eq_getElem h2]
    rfl
  unfold firstMet
  rw [e]
  unfold once pushAll
  have : (step_dedup : List Int → Int → List Int) = push := by
    funext a x
    exact dedup_push a x
  rw [this]
theorem once_ints (ns : List Nat) : (once (ns.map fun (n : Nat) => (n : Int))).length = card ns := by
  unfold once card once
  have := pushAll_map (f := fun (n : Nat) => (n : Int)) (fun x y e => Int.ofNat_inj.mp e) (ts := ns) (l := [])
  rw [List.map_nil] at this
  rw [← this, List.length_map]
theorem map_iv (ns : List Nat) : ns.map iv = (ns.map fun (n : Nat) => (n : Int)).map V.int := by
  rw [List.map_map]
  rfl
section
variable {X : Cx} {a : Expr} {ta : TE} {p p2 q pos : Pos}
/-- len(set(xs)) -/
def tLenSet (K : PySem.W.Frag) (ta : TE) : TE := fun σ H Q => ta σ H fun x H1 => ∃ (l : Addr) (ns : List Nat), x = V.ref l ∧ SqL K H1 l (ns.map iv) ∧ ns.length ≤ 4000 ∧ Q (iv (card ns)) H1
theorem pe_lenSet' (hc : X.calm = true) (hg : Gl X "len") (hm : X.mg "len" = none) (hg2 : Gl X "set") (hm2 : X.mg "set" = none) (ha : PE X a ta)
    (na : starEach [a] X.env = (false, eval a X.env) :: starEach [] X.env := by rfl) : PE X (.Call (.Name "len" p) [.Call (.Name "set" p2) [a] [] q] [] pos) (tLenSet X.K ta) := by
  refine ⟨fun pins s σ H Q I h => ?_⟩
  refine Call_ (ld_blt I hg hm PySem.boot_len ?_)
  refine PyProof.Rows.callWith_builtin1 (PyProof.Rows.args_cons ?_ rfl) rfl rfl
  refine Call_ (ld_blt I hg2 hm2 PyProof.Rows.boot_set ?_)
  refine PyProof.Rows.callWith_type1 (PyProof.Rows.args_cons (thn (ha.run pins s σ H _ I h) fun v s1 ⟨x, H1, I1, r1, l, ns, ex, hq, hn, hQ⟩ => PyProof.Rows.args_nil ?_) na) na rfl
  subst ex
  obtain rfl : v = Value.ref l := r1
  rw [map_iv] at hq
  obtain ⟨its, r, pl, hz⟩ := I1.list hq
  have hl : its.toArray.size = ns.length := by rw [List.size_toArray, ← r.length, List.length_map, List.length_map]
  have hl2 : its.toArray.size = (ns.map fun (n : Nat) => (n : Int)).length := by rw [hl, List.length_map]
  refine call_set_list (I1.ok.hd hc) pl.isList (ns := ns.map fun (n : Nat) => (n : Int)) (by simpa using r.ints) (by unfold scanBound; omega) fun h' tk hS hk => ?_
  rw [hl2, firstMet_once, once_ints] at hS
  refine PyProof.Rows.args_nil ?_
  obtain ⟨o, es, ep, t, ho, hex, hd, _, _, _, hf, hnn⟩ := hS
  have I2 : Inv X pins σ H1 { s1 with heap := h', toks := tk } := I1.kept fun b o e => hk b o (Heap.lt_size e) e
  have hcl := Kw.card_le ns
  exact call_len_set ho hex hd hf (by rw [hnn] <;> omega) ⟨iv (card ns), H1, I2.tok _, ⟨_, by rw [hnn]⟩, hQ⟩
end

/-! ### set(xs), to be sorted -/
abbrev freshS (w : World) : Obj := { cls := .type "set", dict := none, data := .set #[] 0 (.fresh 0 0 (!w.params.followText "set-order")) }
section
variable {P : Program} {w : World} {A : Around} {E : Value → Shared → Prop} {s : Shared}
set_option maxHeartbeats 8000000 in
theorem call_set_ls {l : Addr} {items : Array Value} (ns : List Int) {Q : Value → Shared → Prop} (hh : A.handled = none) (hl : s.heap.IsList l items) (hit : IntsAre items.toList ns) (hb : ns.length + 1 < scanBound)
    (h : ∀ (h' : Heap) (tk c : Nat), SetR w h' s.heap.objs.size (fun j => decide (j ∈ ns)) c → c ≤ ns.length → (∀ b o, s.heap.get? b = some o → h'.get? b = some o) → Q (.ref s.heap.objs.size) { s with heap := h', toks := tk }) :
    wpAny (model P w) A (call (.type "set") [.ref l]) Q E s := by
  have size : items.size = ns.length := by rw [← Array.length_toList]; exact IntsAre.length hit
  obtain ⟨c, tl, hmro⟩ := F.called_set.mro
  have made := F.called_set.made
  have sub := F.called_set.sub
  refine wpAny_call (codeAny_of_tree ?_)
  show wpAny _ _ (callAny (.type "set") _) _ _ _
  refine wpAny_pure ⟨Code.quiet_builtin _ (by decide +kernel), codeAny_builtin F.entry_type_call ?_⟩
  rw [Around.under_plain (weight_type_call_type "set" [.ref l] []) rfl]
  have f1 := F.called_set.notType
  have f2 := F.called_set.canCreate
  have f3 := F.typeCall_set_1 (.ref l)
  repeat (any_goals (first | assumption | wp_step))
  -- the new set
  generalize hnew : ({ cls := .type "set", dict := none, data := .set #[] 0 (.fresh 0 0 (!w.params.followText "set-order")) } : Obj) = fresh
  refine codeAny_mono (code_set_led1 (.ref l) (E := E) (Q₁ := fun ob s1 => ob = .ref s.heap.objs.size ∧ s1 = { s with heap := s.heap.push fresh }) ⟨rfl, by rw [hnew]⟩) fun r s1 hr => ?_
  cases r with
  | error e => exact hr
  | ok fl =>
    cases fl with
    | ret ob =>
      obtain ⟨rfl, rfl⟩ := hr
      have at0 : (s.heap.push fresh).get? s.heap.objs.size = some fresh := Heap.get?_push_size _ (by rw [← hnew]; rfl)
      have ty : Shared.TypeIs { s with heap := s.heap.push fresh } (.ref s.heap.objs.size) "set" := ⟨_, at0, by rw [← hnew]⟩
      have i1 := F.called_set.init.lookup
      have i2 := F.called_set.init.bind (.ref s.heap.objs.size)
      repeat (any_goals (first | assumption | wp_step))
      refine codeAny_mono (codeAny_call_builtin (R := wants (fun r s2 => r = .none ∧ ∃ h' tk c, s2 = { s with heap := h', toks := tk } ∧ SetR w h' s.heap.objs.size (fun j => decide (j ∈ ns)) c ∧ c ≤ ns.length ∧
          (∀ b o, s.heap.get? b = some o → h'.get? b = some o)) E) F.called_set.init.plain F.entry_set_init (check_set_init_1 ty ?_)) fun r2 s2 hr2 => ?_
      · subst hnew
        obtain ⟨ol, hol, hcl, nl, hdl⟩ := hl
        obtain ⟨oc, od, oda, osl⟩ := ol
        simp only at hcl hdl
        subst hcl
        subst hdl
        have hol2 : (s.heap.push (freshS w)).get? l = some { cls := .type "list", dict := od, data := .seq items nl, slots := osl } := Heap.get?_push_of_some _ hol
        have g1 := F.sub_list_set
        have g2 := F.sub_list_frozenset
        have g3 : (Value.type "list" == Value.type "dict") = false := by decide
        have isl : (s.heap.push (freshS w)).IsList l items := ⟨_, hol2, rfl, nl, rfl⟩
        unfold Builtin.«set.__init__» noKeywords Builtin.Frozenset.updateFrom
        generalize hPI : pyIter = PI
        wp_walk
        subst hPI
        refine wpAny_pyIter_list isl ?_
        refine wpAny_bind (wpAny_runValue ?_)
        have lt : l < s.heap.objs.size := Heap.lt_size hol
        have h3 : A.in1.in1.in1.handled = none := by simp [hh]
        have ne1 : l ≠ (s.heap.push (freshS w)).objs.size := by
          rw [Heap.size_push]
          exact Nat.ne_of_lt (Nat.lt_succ_of_lt lt)
        have ne2 : s.heap.objs.size ∉ [(s.heap.push (freshS w)).objs.size, l] := by
          rw [Heap.size_push]
          intro z
          rcases List.mem_cons.mp z with z | z
          · exact absurd z (Nat.ne_of_lt (Nat.lt_succ_self _))
          · rw [List.mem_singleton] at z
            exact absurd z (Nat.ne_of_gt lt)
        have val : ∀ (i : Nat) (v : Value), items[i]? = some v → ∃ k t, ns[i]? = some k ∧ v = .int k t := fun i v hv => by
          have hi : i < ns.length := by rw [← size]; exact (Array.getElem?_eq_some_iff.mp hv).1
          obtain ⟨t, e⟩ := PyProof.Rows.IntsAre.int_at hit i v (by rw [Array.getElem?_toList]; exact hv)
          refine ⟨ns[i], t, List.getElem?_eq_getElem hi, ?_⟩
          rw [e, List.getD_eq_getElem?_getD, List.getElem?_eq_getElem hi] <;> rfl
        refine set_update_ints ((Walks.list h3 _ l ne1 items).toS) s.heap.objs.size ne2 ns size hb val (items.size - 0) 0 _ (by omega) (Nat.zero_le _)
          ⟨⟨_, Heap.get?_push_size _ rfl, rfl, rfl⟩, isl.push _⟩ ⟨0, Nat.le_refl 0, setR_new_at ?_⟩ ?_
        · exact Heap.get?_push_of_some _ at0
        · intro s' c' hm hc' hS'
          obtain ⟨h', g4, d', tk', os'⟩ := s'
          obtain rfl : g4 = s.gens := hm.gens
          obtain rfl : d' = s.drawn := hm.drawn
          obtain rfl : os' = s.os := hm.os
          show wpAny _ _ _ _ _ _
          refine wpAny_pure ?_
          show wpAny _ _ (ret Value.none) _ _ _
          rw [size] at hc'
          refine wpAny_pure ⟨rfl, h', tk', c', rfl, hS', hc', fun b o e => ?_⟩
          have b0 : b < s.heap.objs.size := Heap.lt_size e
          refine hm.heap b o (fun z => ?_) (Heap.get?_push_of_some _ (Heap.get?_push_of_some _ e))
          rcases List.mem_cons.mp z with z | z
          · exact absurd z (Nat.ne_of_lt b0)
          · rw [List.mem_singleton, Heap.size_push] at z
            exact absurd z (Nat.ne_of_lt (Nat.lt_succ_of_lt b0))
      · cases r2 with
        | error e => exact hr2
        | ok fl2 =>
          cases fl2 with
          | ret r =>
            obtain ⟨rfl, h', tk, c', rfl, hS', hc', hk'⟩ := hr2
            repeat (any_goals (first | assumption | wp_step))
            exact h _ _ _ hS' hc' hk'
          | _ => exact hr2.elim
    | _ => exact hr.elim
end
def rSetL (K : PySem.W.Frag) (w : World) : List V → Hp → VK → Prop := fun xs H Q => ∃ (l : Addr) (ns : List Nat), xs = [V.ref l] ∧ SqL K H l (ns.map iv) ∧ ns.length ≤ 4000 ∧ ∀ a c, H a = none → c ≤ ns.length → Q (.ref a) (upd H a (SetO w a (fun j => decide (j ∈ ns.map fun (n : Nat) => (n : Int))) c))
theorem cr_setL {X : Cx} (hc : X.calm = true) : CallR X (.type "set") (rSetL X.K X.w) := by
  intro pins s σ H xs us Q I r h
  obtain ⟨l, ns, rfl, hq, hn, q⟩ := h
  rw [Vals.ref1 r]
  rw [map_iv] at hq
  obtain ⟨its, rv, pl, hz⟩ := I.list hq
  refine call_set_ls (ns.map fun (n : Nat) => (n : Int)) (I.ok.hd hc) pl.isList (by simpa using rv.ints) (by rw [List.length_map]; unfold scanBound; omega) fun h' tk c hS hc' hk => ?_
  rw [List.length_map] at hc'
  have hn0 : H s.heap.objs.size = none := I.hok.fresh (Nat.le_refl _)
  exact ⟨.ref s.heap.objs.size, _, I.laid (t' := tk) hk (Nat.le_refl _) (setO_new hS), rfl, q _ c hn0 hc'⟩
/-- sorted of such a set: the numbers, each once, rising -/
theorem sorted_ss {l : List Nat} {ns : List Int} (h1 : ns.Pairwise (· < ·)) (h2 : ∀ k : Int, k ∈ ns ↔ decide (k ∈ l.map fun (n : Nat) => (n : Int)) = true) : ns.map V.int = (ss l).map iv := by
  have e : ns = (ns.map Int.toNat).map fun (n : Nat) => (n : Int) := by
    rw [List.map_map]
    refine (List.map_id ns).symm.trans (List.map_congr_left fun k hk => ?_)
    obtain ⟨n, _, rfl⟩ := List.mem_map.mp (of_decide_eq_true ((h2 k).mp hk))
    rfl
  have e2 : ns.map Int.toNat = ss l := ss_eq (by
    rw [List.pairwise_map]
    refine List.Pairwise.imp_of_mem ?_ h1
    intro a b ha hb hlt
    obtain ⟨n, _, rfl⟩ := List.mem_map.mp (of_decide_eq_true ((h2 a).mp ha))
    obtain ⟨m, _, rfl⟩ := List.mem_map.mp (of_decide_eq_true ((h2 b).mp hb))
    show n < m
    omega) fun x => by
    constructor
    · intro hx
      obtain ⟨k, hk, rfl⟩ := List.mem_map.mp hx
      obtain ⟨n, hn, rfl⟩ := List.mem_map.mp (of_decide_eq_true ((h2 k).mp hk))
      exact hn
    · intro hx
      exact List.mem_map.mpr ⟨(x : Int), (h2 _).mpr (decide_eq_true (List.mem_map_of_mem hx)), rfl⟩
  rw [e, e2, List.map_map]
  rfl
end Cw
set_option Elab.async false
set_option linter.all false
set_option maxRecDepth 100000
set_option maxHeartbeats 4000000
/-! come_up -/
namespace Cw
open PySem PySem.Spec PyProof.Rows L2 Kw
section
variable {P : Program} {w : World} {K : PySem.W.Frag} {mg : Str → Option Value} {base : Heap}
/-- rooms told as a dict's keys -/
theorem look_rooms {α : Type} (f : α → Rm) (hf : ∀ x y, f x = f y → x = y) (v : V) [DecidableEq α] : ∀ (l : List α) (t : α), valV (l.map fun i => (f i, v)) (f t) = if t ∈ l then some v else none
  | [], t => by simp [valV]
  | x :: l, t => by
    rw [List.map_cons]
    by_cases e : x = t
    · rw [valV_pos (by rw [e]), if_pos (by rw [e]; exact List.mem_cons_self)]
    · rw [valV_neg (fun z => e (hf _ _ z)), look_rooms f hf v l t]
      have : (t ∈ x :: l) ↔ t ∈ l := by
        rw [List.mem_cons]
        exact ⟨fun z => z.resolve_left fun q => e q.symm, .inr⟩
      by_cases q : t ∈ l
      · rw [if_pos q, if_pos (this.mpr q)]
      · rw [if_neg q, if_neg fun z => q (this.mp z)]
theorem one_inj (x y : Nat) (h : Rm.one x = Rm.one y) : x = y := by cases h; rfl
def spCome (K : PySem.W.Frag) : Sp := fun vs H Q _ => ∃ (x : V) (m : Mc) (k : Nat), vs = [x] ∧ MvAt H x m.mv ∧ m.Valid k ∧ m.mv.length ≤ 1000 ∧ ∀ H' p, Same H H' → H' p = some (.lst (m.come.map iv)) → Q (.ref p) H'
theorem ok_come {f : Addr} {fd : FuncData} (F : Fun K "come_up" "come_up" sCome f fd) (mlen : mg "len" = none) : FnOk P w K mg base CX0 1 f fd ["moves"] (spCome K) := by
  refine F.ok scCome (fun vs H Q E h => ?_) (fun cdv A outer s H vs Q E hr h => ?_)
  · obtain ⟨x, m, k, rfl, _⟩ := h
    rfl
  · obtain ⟨x, m, k, rfl, hx, hv, hz, q⟩ := h
    refine ⟨_, pss_cons (ps_set (i := 1) scCome.nd rfl (.inl rfl) (pe_rdisp true hr pe_int pe_bl))
      (pss_cons (ps_set (i := 2) scCome.nd rfl (.inl rfl) (pe_lst (pa_cons pe_int pa_nil)))
      (pss_cons (ps_set (i := 3) scCome.nd rfl (.inl rfl) pe_int)
      (pss_cons (ps_while PassesOwn.never (pt_cmpR op_lt (pv 3) (pe_callB call_len_seq (by rfl) mlen PySem.boot_len (pa_cons (pv 2) pa_nil)) (nomark _))
        (pss_cons (ps_for PassesOwn.never rfl (pi_tup (pe_ix ix_tup (pv 0) (pe_ix ix_list (pv 2) (pv 3) (fun _ _ => rfl)) (fun _ _ => rfl))) (pg_name (i := 4) scCome.nd rfl (.inl rfl))
          (pss_one (ps_if (pt_cmp (pc_rnotin hr (pv 4) (pv 1)))
            (pss_cons (ps_rput hr (pv 1) (pv 4) pe_bl rfl)
            (pss_one (ps_expr (pe_bm PySem.F.plainAttrs_list PySem.F.slot_list_append PySem.F.type_list_append mt_append (pv 2) (pa_cons (pv 4) pa_nil))))) pss_nil)))
        (pss_one (ps_set (i := 3) scCome.nd rfl (.inl rfl) (pe_op op_add (pv 3) pe_int)))))
      (pss_one (ps_ret (pv 2)))))), ?_⟩
    -- found = {0: True}; rooms = [0]; at = 0
    refine fun p np => ⟨upd_same, .one 0, rfl, rfl, fun o d => ?_⟩
    refine ⟨by show 1 ≤ sizeLine; decide, fun r nr => ?_⟩
    have n1 : ∀ {u : HO}, H r = none := fun {u} => by
      by_cases e : r = p
      · rw [e]; exact np
      · rw [upd_ne e, upd_ne e] at nr
        exact nr
    have n1 : H r = none := n1 (u := .dK [])
    have npr : p ≠ r := fun e => by
      rw [← e, upd_same] at nr
      cases nr
    obtain ⟨px, vs, rfl, hpx, hvl, hrow⟩ := hx.row
    have low : ∀ n, ∀ t ∈ it m.succ 0 n, t < m.mv.length := it_all (P := fun t => t < m.mv.length) hv.pos (fun _ _ _ ht => Mc.succ_lt hv ht)
    have few : ∀ n, (it m.succ 0 n).length ≤ m.mv.length := fun n => nodup_lt_length (it_nodup n) (low n)
    let Inv1 : List Nat → Hp → Prop := fun l H' => Same H H' ∧ RDict P w H' p true (l.map fun i => (Rm.one i, V.bl true)) ∧ H' r = some (.lst (l.map iv))
    refine while_by (fun σ H' => ∃ n y4, σ = [some (.ref px), some (.ref p), some (.ref r), some (iv n), y4] ∧ Inv1 (it m.succ 0 n) H' ∧ ∀ j < n, j < (it m.succ 0 j).length)
      (fun σ _ => match σ with
        | [_, _, _, some (.int n), _] => m.mv.length - n.toNat
        | _ => 0) ⟨0, none, rfl, ⟨?_, ?_, ?_⟩, fun j hj => absurd hj (by omega)⟩ (fun σ H' hI => ?_) (fun σ H' Q Q' imp h => ?_)
    · exact (((Same.refl H).upd np).upd np).upd n1
    · exact d.same (upd_ne npr) (Tst.new nr)
    · exact upd_same
    · obtain ⟨n, y4, rfl, ⟨hs, hd, hl⟩, hlt⟩ := hI
      refine ⟨iv n, rfl, .ref r, rfl, r, _, rfl, .inl (SqL.of hl), _, _, rfl, rfl, _, rfl, ?_⟩
      by_cases hn : n < (it m.succ 0 n).length
      · refine iteP (decide_eq_true (by rw [List.length_map]; omega)) ?_
        have e : (it m.succ 0 n)[n]? = some (it m.succ 0 n)[n] := List.getElem?_eq_getElem hn
        generalize hroom : (it m.succ 0 n)[n] = room at e
        have hrl : room < m.mv.length := low n room (List.mem_of_getElem? e)
        have erow : m.mv[room]? = some (m.succ room) := by
          unfold Mc.succ
          rw [List.getD_eq_getElem?_getD, List.getElem?_eq_getElem hrl]
          rfl
        obtain ⟨q', hq1, hq2⟩ := hrow room _ erow
        have hpx' := hs _ _ hpx
        have hq' := hs _ _ hq2
        -- for to in moves[rooms[at]]
        refine ⟨.ref px, rfl, .ref r, rfl, iv n, rfl, r, _, _, _, rfl, rfl, SqL.of hl, atI_nat (iv_get e), px, _, _, _, rfl, rfl, SqT.of hpx', atI_nat hq1, q', rfl, ⟨_, SqT.of hq'⟩, ?_⟩
        refine for_tup (xs := (m.succ room).map iv) (fun i σ' H'' => ∃ y4, σ' = [some (.ref px), some (.ref p), some (.ref r), some (iv n), y4] ∧ Inv1 (pushAll (it m.succ 0 n) ((m.succ room).take i)) H'')
          ⟨y4, rfl, hs, hd, hl⟩ (fun i σ' H'' _ hP => ?_) (fun i v σ' H'' hi hP => ?_) (fun σ' H'' hP => ?_)
        · obtain ⟨y, rfl, hs', _⟩ := hP
          exact SqT.of (hs' _ _ hq2)
        · obtain ⟨y, rfl, hs', hd', hl'⟩ := hP
          rw [List.getElem?_map] at hi
          obtain ⟨t, ht, rfl⟩ := Option.map_eq_some_iff.mp hi
          have hil := (List.getElem?_eq_some_iff.mp ht).1
          have tk : (m.succ room).take (i + 1) = (m.succ room).take i ++ [t] := by rw [List.take_add_one, ht]; rfl
          have nx : pushAll (it m.succ 0 n) ((m.succ room).take (i + 1)) = push (pushAll (it m.succ 0 n) ((m.succ room).take i)) t := by rw [tk, pushAll_snoc]
          generalize hcur : pushAll (it m.succ 0 n) ((m.succ room).take i) = cur at hd' hl' nx
          have curl : cur.length ≤ 1000 := by
            rw [← hcur]
            refine Nat.le_trans (nodup_lt_length (b := m.mv.length) (pushAll_nodup (it_nodup n)) fun z hz => ?_) hz
            rcases mem_pushAll.mp hz with z1 | z1
            · exact low n z z1
            · exact Mc.succ_lt hv (List.mem_of_mem_take z1)
          have lk := look_rooms Rm.one one_inj (V.bl true) cur t
          refine ⟨iv t, rfl, .ref p, rfl, p, true, _, .one t, rfl, hd', rfl, rfl, _, rfl, ?_⟩
          by_cases ht' : t ∈ cur
          · refine iteN (by rw [lk, if_pos ht']; rfl) ?_
            refine ⟨_, rfl, ?_⟩
            rw [nx, push_in ht']
            exact ⟨hs', hd', hl'⟩
          · rw [if_neg ht'] at lk
            refine iteP (by rw [lk]; rfl) ?_
            refine ⟨.ref p, rfl, iv t, rfl, p, true, _, .one t, rfl, hd', rfl, rfl, lk, by rw [List.length_map]; exact small (by omega), fun o2 d2 => ?_⟩
            have hl2 : (upd H'' p o2) r = some (.lst (cur.map iv)) := by rw [upd_ne (Ne.symm npr)]; exact hl'
            refine ⟨.ref r, rfl, .inl ⟨rfl, _, SqL.of hl2⟩, iv t, rfl, r, _, _, rfl, rfl, hl2, by rw [List.length_map]; exact small (by omega), ?_⟩
            refine ⟨_, rfl, ?_⟩
            rw [nx, push_out ht']
            refine ⟨(hs'.upd np).upd n1, ?_, ?_⟩
            · rw [List.map_append]
              exact d2.same (upd_ne npr) (ts_lst hl2)
            · rw [upd_same, List.map_append]
              rfl
        · obtain ⟨y, rfl, hI'⟩ := hP
          rw [List.length_map, List.take_length] at hI'
          rw [← it_some e] at hI'
          refine ⟨iv n, rfl, _, _, rfl, rfl, ⟨n + 1, y, rfl, hI', fun j hj => ?_⟩, ?_⟩
          · by_cases z : j = n
            · rw [z]; exact hn
            · exact hlt j (by omega)
          · show m.mv.length - ((n : Int) + 1).toNat < m.mv.length - ((n : Int)).toNat
            have := few n
            omega
      · refine iteN (decide_eq_false (by rw [List.length_map]; omega)) ?_
        refine ⟨.ref r, rfl, q H' r hs ?_⟩
        rw [hl]
        have := Mc.come_any hv (b := n) (by omega)
        rw [this]
    · obtain ⟨v, e1, v2, e2, p', ys, e3, e4, i, j, e5, e6, b, e7, z⟩ := h
      exact ⟨v, e1, v2, e2, p', ys, e3, e4, i, j, e5, e6, b, e7, imp _ _ z⟩
end
end Cw
set_option Elab.async false
set_option linter.all false
set_option maxRecDepth 100000
set_option maxHeartbeats 4000000
/-! parted_rooms -/
namespace Cw
open PySem PySem.Spec PyProof.Rows L2 Kw
section
variable {P : Program} {w : World} {K : PySem.W.Frag} {mg : Str → Option Value} {base : Heap}
def spParted (K : PySem.W.Frag) : Sp := fun vs H Q _ => ∃ (x y : V) (r : Addr) (m : Mc) (k : Nat), vs = [x, y, .ref r] ∧ MvAt H x m.mv ∧ BlsAt H y m.ys ∧ H r = some (.lst (m.come.map iv)) ∧ m.Valid k ∧ k ≤ 100 ∧ m.mv.length ≤ 1000 ∧
  ∀ H' p c, Same H H' → m.Parts c → H p = none → H' p = some (.dK (clsD m.come c)) → Q (.ref p) H'
theorem ys_get {m : Mc} {k : Nat} (hv : m.Valid k) {r : Nat} (hr : r < m.mv.length) : m.ys[r]? = some (m.y r) := by
  unfold Mc.y
  have : r < m.ys.length := by rw [hv.len]; exact hr
  rw [List.getD_eq_getElem?_getD, List.getElem?_eq_getElem this]
  rfl
theorem mv_get {m : Mc} {r : Nat} (hr : r < m.mv.length) : m.mv[r]? = some (m.succ r) := by
  unfold Mc.succ
  rw [List.getD_eq_getElem?_getD, List.getElem?_eq_getElem hr]
  rfl
theorem b2i (b : Bool) : (if b = true then (1 : Int) else 0) = ((b.toNat : Nat) : Int) := by cases b <;> rfl
/-- the key of a room in a turn -/
def kf (m : Mc) (c : Nat → Nat) (r : Nat) : Rm := .some (c r) ((m.succ r).map c)
theorem kf_eq {m : Mc} {c : Nat → Nat} {r s : Nat} : kf m c r = kf m c s ↔ c r = c s ∧ (m.succ r).map c = (m.succ s).map c := by
  unfold kf
  constructor
  · intro h
    injection h with h1 h2
    exact ⟨h1, h2⟩
  · rintro ⟨h1, h2⟩
    rw [h1, h2]
def keysOf (m : Mc) (c : Nat → Nat) (i : Nat) : List Rm := once ((m.come.take i).map (kf m c))
def newC (m : Mc) (c : Nat → Nat) (r : Nat) : Nat := (once (m.come.map (kf m c))).idxOf (kf m c r)
theorem keys_pre (m : Mc) (c : Nat → Nat) (i : Nat) : keysOf m c i <+: once (m.come.map (kf m c)) := by
  have e : m.come.map (kf m c) = (m.come.take i).map (kf m c) ++ (m.come.drop i).map (kf m c) := by rw [← List.map_append, List.take_append_drop]
  rw [e, once_app]
  exact pushAll_pre
theorem newC_iff {m : Mc} {c : Nat → Nat} {r s : Nat} (hr : r ∈ m.come) (hs : s ∈ m.come) : newC m c r = newC m c s ↔ c r = c s ∧ (m.succ r).map c = (m.succ s).map c := by
  rw [← kf_eq]
  exact ⟨fun e => idxOf_inj (mem_once.mpr (List.mem_map_of_mem hr)) (mem_once.mpr (List.mem_map_of_mem hs)) e, fun e => by unfold newC; rw [e]⟩
theorem ok_parted {f : Addr} {fd : FuncData} (F : Fun K "parted_rooms" "parted_rooms" sParted f fd) (mlen : mg "len" = none) (mset : mg "set" = none) (mdict : mg "dict" = none) (mint : mg "int" = none) (mtup : mg "tuple" = none) :
    FnOk P w K mg base CX0 1 f fd ["moves", "yes", "rooms"] (spParted K) := by
  refine F.ok scParted (fun vs H Q E h => ?_) (fun cdv A outer s H vs Q E hr h => ?_)
  · obtain ⟨x, y, r, m, k, rfl, _⟩ := h
    rfl
  · obtain ⟨x, y, r, m, k, rfl, hx, hy, hrm, hv, hk, hz, q⟩ := h
    have nd := scParted.nd
    have hu := hu_of hr
    refine ⟨_, pss_cons (ps_set (i := 4) nd rfl (.inr rfl) (pe_callTy (call_dictP rfl) (by rfl) mdict bDict (pa_cons
        (pe_lc (own := [("room", 3)]) (g := gName 3) (tt := tYes) rfl nd (pi_list (pv 2)) (blkOk_by (own := [("room", 3)]) (N := nParted) (sc := defScope sParted) (by decide +kernel)) (fun _ _ _ _ _ => pg_name (i := 3) nd rfl (Or.inl rfl)) (fun _ _ _ _ _ => pts_nil)
          (fun _ _ _ _ _ => pe_tup (pa_cons (pv 3) (pa_cons (pe_callTy call_int1 (by rfl) mint bInt (pa_cons (pe_ix (ixT K) (pv 1) (pv 3) (fun _ _ => rfl)) pa_nil)) pa_nil)))) pa_nil)))
      (pss_cons (ps_set (i := 5) nd rfl (.inl rfl) pe_int)
      (pss_cons (ps_while PassesOwn.never (pt_cmpR op_ne (pe_lenSet' rfl (by rfl) mlen (by rfl) mset
            (pe_lc (own := [("room", 3)]) (g := gName 3) (tt := tYes) rfl nd (pi_list (pv 2)) (blkOk_by (own := [("room", 3)]) (N := nParted) (sc := defScope sParted) (by decide +kernel)) (fun _ _ _ _ _ => pg_name (i := 3) nd rfl (Or.inl rfl)) (fun _ _ _ _ _ => pts_nil)
              (fun _ _ _ _ _ => pe_dget hu (pv 4) (pv 3) (fun _ _ => rfl)))) (pv 5) (nomark _))
        (pss_cons (ps_set (i := 5) nd rfl (.inl rfl) (pe_lenSet' rfl (by rfl) mlen (by rfl) mset
            (pe_lc (own := [("room", 3)]) (g := gName 3) (tt := tYes) rfl nd (pi_list (pv 2)) (blkOk_by (own := [("room", 3)]) (N := nParted) (sc := defScope sParted) (by decide +kernel)) (fun _ _ _ _ _ => pg_name (i := 3) nd rfl (Or.inl rfl)) (fun _ _ _ _ _ => pts_nil)
              (fun _ _ _ _ _ => pe_dget hu (pv 4) (pv 3) (fun _ _ => rfl)))))
        (pss_cons (ps_set (i := 6) nd rfl (.inl rfl) pe_rnew)
        (pss_cons (ps_set (i := 7) nd rfl (.inl rfl) pe_dnewK)
        (pss_cons (ps_for PassesOwn.never rfl (pi_list (pv 2)) (pg_name (i := 3) nd rfl (.inl rfl))
          (pss_cons (ps_set (i := 8) nd rfl (.inl rfl) (pe_tup (pa_cons (pe_dget hu (pv 4) (pv 3) (fun _ _ => rfl)) (pa_cons (pe_callTy (tupOf K) (by rfl) mtup bTuple (pa_cons
              (pe_lc (own := [("to", 9)]) (g := gName 9) (tt := tYes) rfl nd (pi_tup (pe_ix (ixT K) (pv 0) (pv 3) (fun _ _ => rfl))) (blkOk_by (own := [("to", 9)]) (N := nParted) (sc := defScope sParted) (by decide +kernel)) (fun _ _ _ _ _ => pg_name (i := 9) nd rfl (Or.inl rfl)) (fun _ _ _ _ _ => pts_nil)
                (fun _ _ _ _ _ => pe_dget hu (pv 4) (pv 9) (fun _ _ => rfl))) pa_nil)) pa_nil))))
          (pss_cons (ps_if (pt_cmp (pc_rnotin hr (pv 8) (pv 6))) (pss_one (ps_rput hr (pv 6) (pv 8) (pe_callB call_lenR (by rfl) mlen PySem.boot_len (pa_cons (pv 6) pa_nil)) rfl)) pss_nil)
          (pss_one (ps_dput hu (pv 7) (pv 3) (pe_rget hr (pv 6) (pv 8) (fun _ _ => rfl)) rfl)))))
        (pss_one (ps_set (i := 4) nd rfl (.inr rfl) (pv 7))))))))
      (pss_one (ps_ret (pv 4))))), ?_⟩
    have low := Mc.come_lt hv
    have few := Mc.come_len hv
    obtain ⟨px, vs, rfl, hpx, hvl, hrow⟩ := hx.row
    obtain ⟨py, rfl, hpy⟩ := hy
    -- classes = dict([..])
    refine ⟨.ref r, rfl, r, rfl, ⟨_, SqL.of hrm⟩, fun D hD => ?_⟩
    refine lc_of_list (xs := m.come.map iv) (fun j v H' => ∃ t, v = .ref t ∧ ∀ z, m.come[j]? = some z → H' t = some (.tup [iv z, iv (m.y z).toNat])) (fun i v H1 H2 ⟨t, e, h⟩ st => ⟨t, e, fun z hz => st _ _ (h z hz)⟩) hD (fun H1 st => SqL.of (st _ _ hrm)) (by rw [List.length_map]; exact small' (by omega))
      (fun i v hi => ?_) (fun H1 ys st hDl hyl hys => ?_)
    · intro H1 R S st hR
      rw [List.getElem?_map] at hi
      obtain ⟨z, hz', rfl⟩ := Option.map_eq_some_iff.mp hi
      have zl := low z (List.mem_of_getElem? hz')
      refine ⟨rfl, ?_⟩
      refine ⟨iv z, rfl, .ref py, rfl, iv z, rfl, py, _, _, _, rfl, rfl, SqT.of (st _ _ hpy), atI_nat (bl_get (ys_get hv zl)), .inr ⟨_, rfl, ?_⟩⟩
      refine ⟨by show 2 ≤ sizeLine; decide, fun t ht => hR _ _ (Same.new ht) ⟨t, rfl, fun z' e => ?_⟩⟩
      rw [hz'] at e
      cases e
      rw [upd_same, b2i]
    · obtain ⟨ps, rfl, hps⟩ := refs_list (G := fun j t => ∀ z, m.come[j]? = some z → H1 t = some (.tup [iv z, iv (m.y z).toNat])) hys
      have pl : ps.length = m.come.length := by rw [List.length_map, List.length_map] at hyl; exact hyl
      refine ⟨D, ps, clsD m.come fun z => (m.y z).toNat, rfl, SqL.of hDl, ?_, fun d0 nd0 => ?_⟩
      · refine paired_of (by rw [List.length_map]; exact pl) fun j t kv e1 e2 => ?_
        rw [List.getElem?_map] at e2
        obtain ⟨z, hz', rfl⟩ := Option.map_eq_some_iff.mp e2
        exact SqT.of (hps j t e1 z hz')
      rw [merge_nodup _ [] (by rw [List.nil_append]; exact clsD_nodup Mc.come_nodup _), List.nil_append]
      -- the loop
      refine while_m (fun mm σ H' => ∃ (c : Nat → Nat) (many : Nat) (d : Addr) (y3 y6 y7 y8 : Option V), σ = [some (.ref px), some (.ref py), some (.ref r), y3, some (.ref d), some (iv many), y6, y7, y8, none] ∧ Same H H' ∧ H d = none ∧ H' d = some (.dK (clsD m.come c)) ∧ m.Way c many ∧ mm = m.come.length - many)
        ⟨_, _, 0, d0, none, none, none, none, rfl, (st.trans (Same.new nd0)), st.free nd0, upd_same, Mc.Way.start fun _ _ => rfl, rfl⟩ (fun mm σ H' hI => ?_)
      obtain ⟨c, many, d, y3, y6, y7, y8, rfl, s1, dn, hd, way, rfl⟩ := hI
      -- [classes[room] for room in rooms]
      have clsOf : ∀ {H2 : Hp}, Same H' H2 → ∀ z ∈ m.come, DGet H2 d (iv z) (some (iv (c z))) := fun {H2} st z hz' => by
        have g := DGet.k (k := .inl (z : Int)) (st _ _ hd)
        rw [look_cls, if_pos hz'] at g
        exact g
      have comp : ∀ (H2 : Hp) (y3 y5 y6 y7 y8 : Option V) (D2 : Addr), Same H' H2 → H2 D2 = none → ∀ i v, (m.come.map iv)[i]? = some v →
          TurnOk (gName 3) (tDGet (tVar 4) (tVar 3)) [3] [some (.ref px), some (.ref py), some (.ref r), y3, some (.ref d), y5, y6, y7, y8, none] H2 D2 (fun j v _ => ∀ z, m.come[j]? = some z → v = iv (c z)) i v := by
        intro H2 y3 y5 y6 y7 y8 D2 st2 _ i v hi H3 R S st3 hR
        rw [List.getElem?_map] at hi
        obtain ⟨z, hz', rfl⟩ := Option.map_eq_some_iff.mp hi
        refine ⟨rfl, ?_⟩
        refine ⟨.ref d, rfl, iv z, rfl, d, _, rfl, clsOf (st2.trans st3) z (List.mem_of_getElem? hz'), hR _ _ (Same.refl _) fun z' e => ?_⟩
        rw [hz'] at e
        cases e
        rfl
      have fin : ∀ {ys : List V}, ys.length = (m.come.map iv).length → (∀ (j : Nat) (v : V), ys[j]? = some v → ∀ z, m.come[j]? = some z → v = iv (c z)) → ys = (m.come.map c).map iv := fun {ys} l h => by
        rw [List.map_map]
        exact all_map (f := fun z => iv (c z)) (by rw [l, List.length_map]) h
      refine ⟨.ref r, rfl, r, rfl, ⟨_, SqL.of (s1 _ _ hrm)⟩, fun D2 hD2 => ?_⟩
      refine lc_of_list (xs := m.come.map iv) (fun j v _ => ∀ z, m.come[j]? = some z → v = iv (c z)) (fun i v _ _ h _ => h) hD2 (fun H2 st2 => SqL.of (st2 _ _ (s1 _ _ hrm))) (by rw [List.length_map]; exact small' (by omega)) (comp H' y3 _ y6 y7 y8 D2 (Same.refl _) hD2) (fun H2 ys st2 hD2l hyl2 hys2 => ?_)
      rw [fin hyl2 hys2] at hD2l
      refine ⟨D2, m.come.map c, rfl, SqL.of hD2l, by rw [List.length_map]; omega, iv many, rfl, rfl, _, rfl, ?_⟩
      have le := way.le
      have cl := way.card_le
      by_cases hcard : card (m.come.map c) = many
      · refine iteN (by rw [hcard]; simp) ?_
        exact ⟨.ref d, rfl, q H2 d c (s1.trans st2) (way.done hv (by omega)) dn (st2 _ _ hd)⟩
      · refine iteP (by
          have : ¬ (iv (card (m.come.map c)) = iv many) := fun e => hcard (by injection e with e; exact Int.ofNat_inj.mp e)
          rw [decide_eq_false this]
          rfl) ⟨fun σ' H' => ∃ m', m' < m.come.length - many ∧ ∃ (c : Nat → Nat) (many : Nat) (d : Addr) (y3 y6 y7 y8 : Option V), σ' = [some (.ref px), some (.ref py), some (.ref r), y3, some (.ref d), some (iv many), y6, y7, y8, none] ∧ Same H H' ∧ H d = none ∧ H' d = some (.dK (clsD m.come c)) ∧ m.Way c many ∧ m' = m.come.length - many, fun _ _ z => z, ?_⟩
        have s2 := s1.trans st2
        -- many = len(set([..]))
        refine ⟨.ref r, rfl, r, rfl, ⟨_, SqL.of (s2 _ _ hrm)⟩, fun D3 hD3 => ?_⟩
        refine lc_of_list (xs := m.come.map iv) (fun j v _ => ∀ z, m.come[j]? = some z → v = iv (c z)) (fun i v _ _ h _ => h) hD3 (fun H3 st3 => SqL.of (st3 _ _ (s2 _ _ hrm))) (by rw [List.length_map]; exact small' (by omega)) (comp H2 y3 _ y6 y7 y8 D3 st2 hD3) (fun H3 ys st3 hD3l hyl3 hys3 => ?_)
        rw [fin hyl3 hys3] at hD3l
        refine ⟨D3, m.come.map c, rfl, SqL.of hD3l, by rw [List.length_map]; omega, ?_⟩
        have s3 := s2.trans st3
        -- seen = {}; further = {}
        refine fun ps3 o3 nps dd => fun pf npf => ?_
        have npsH : H ps3 = none := s3.free nps
        have npfH2 : (upd H3 ps3 o3) pf = none := npf
        have ne1 : ps3 ≠ pf := fun e => by
          rw [← e] at npf
          have := dd.mut
          rw [npf] at this
          exact this
        have npf3 : H3 pf = none := by rw [upd_ne (Ne.symm ne1)] at npf; exact npf
        have npfH : H pf = none := s3.free npf3
        have hd3 : H3 d = some (.dK (clsD m.come c)) := st3 _ _ (st2 _ _ hd)
        have dps : d ≠ ps3 := ne_of_none hd3 nps
        have dpf : d ≠ pf := ne_of_none hd3 npf3
        have s4 : Same H (upd (upd H3 ps3 o3) pf (.dK [])) := (s3.upd npsH).upd npfH
        refine ⟨.ref r, rfl, r, rfl, ⟨_, SqL.of (s4 _ _ hrm)⟩, ?_⟩
        refine for_list (xs := m.come.map iv) (fun i σ' H5 => ∃ y3 y8, σ' = [some (.ref px), some (.ref py), some (.ref r), y3, some (.ref d), some (iv (card (m.come.map c))), some (.ref ps3), some (.ref pf), y8, none] ∧ Same H H5 ∧ H5 d = some (.dK (clsD m.come c)) ∧ RDict P w H5 ps3 false (idxD (keysOf m c i)) ∧ H5 pf = some (.dK (clsD (m.come.take i) (newC m c))))
          ⟨y3, y8, rfl, s4, by rw [upd_ne dpf, upd_ne dps]; exact hd3, ?_, upd_same⟩ (fun i σ' H5 _ hP => ?_) (fun i v σ' H5 hi hP => ?_) (fun σ' H5 hP => ?_)
        · exact dd.same (upd_ne ne1) (Tst.new npf)
        · obtain ⟨_, _, _, s5, _⟩ := hP
          exact SqL.of (s5 _ _ hrm)
        · obtain ⟨y3', y8', rfl, s5, hd5, ds5, df5⟩ := hP
          rw [List.getElem?_map] at hi
          obtain ⟨z, hz', rfl⟩ := Option.map_eq_some_iff.mp hi
          have hil := (List.getElem?_eq_some_iff.mp hz').1
          have zin := List.mem_of_getElem? hz'
          have zl := low z zin
          obtain ⟨q', hq1, hq2⟩ := hrow z _ (mv_get zl)
          have g5 : ∀ {H6 : Hp}, Same H5 H6 → ∀ t ∈ m.come, DGet H6 d (iv t) (some (iv (c t))) := fun {H6} st t ht => by
            have g := DGet.k (k := .inl (t : Int)) (st _ _ hd5)
            rw [look_cls, if_pos ht] at g
            exact g
          -- key = (classes[room], tuple([..]))
          refine ⟨.ref d, rfl, iv z, rfl, d, _, rfl, g5 (Same.refl _) z zin, ?_⟩
          refine ⟨.ref px, rfl, iv z, rfl, px, _, _, _, rfl, rfl, SqT.of (s5 _ _ hpx), atI_nat hq1, q', rfl, ⟨_, SqT.of (s5 _ _ hq2)⟩, fun D6 hD6 => ?_⟩
          refine lc_of_tup (xs := (m.succ z).map iv) (fun j v _ => ∀ t, (m.succ z)[j]? = some t → v = iv (c t)) (fun i v _ _ h _ => h) hD6 (fun H6 st6 => SqT.of (st6 _ _ (s5 _ _ hq2))) (by
            rw [List.length_map, Mc.succ_len hv zl]
            exact small' (by omega)) (fun i v hi => ?_) (fun H6 ys st6 hD6l hyl6 hys6 => ?_)
          · intro H6 R S st6 hR
            rw [List.getElem?_map] at hi
            obtain ⟨t, ht, rfl⟩ := Option.map_eq_some_iff.mp hi
            refine ⟨rfl, ?_⟩
            refine ⟨.ref d, rfl, iv t, rfl, d, _, rfl, g5 st6 t (Mc.come_closed hv zin (List.mem_of_getElem? ht)), hR _ _ (Same.refl _) fun t' e => ?_⟩
            rw [ht] at e
            cases e
            rfl
          have eys : ys = ((m.succ z).map c).map iv := by
            rw [List.map_map]
            exact all_map (f := fun t => iv (c t)) (by rw [hyl6, List.length_map]) hys6
          rw [eys] at hD6l
          refine ⟨D6, _, rfl, .inl ⟨SqL.of hD6l, fun t6 nt6 => ?_⟩⟩
          refine ⟨by show 2 ≤ sizeLine; decide, fun k6 nk6 => ?_⟩
          -- the key stands
          have s56 : Same H5 (upd (upd H6 t6 (.tup (((m.succ z).map c).map iv))) k6 (.tup [iv (c z), .ref t6])) := st6.trans ((Same.new nt6).trans (Same.new nk6))
          have ne6 : t6 ≠ k6 := fun e => by
            rw [← e, upd_same] at nk6
            cases nk6
          have rm7 : RmAt (upd (upd H6 t6 (.tup (((m.succ z).map c).map iv))) k6 (.tup [iv (c z), .ref t6])) (.ref k6) (kf m c z) := ⟨k6, t6, rfl, upd_same, by rw [upd_ne ne6, upd_same]⟩
          generalize upd (upd H6 t6 (.tup (((m.succ z).map c).map iv))) k6 (.tup [iv (c z), .ref t6]) = H7 at s56 rm7 ⊢
          have s7 := s5.trans s56
          have d7 : RDict P w H7 ps3 false (idxD (keysOf m c i)) := by
            refine ds5.same ?_ s56.tst
            cases e : H5 ps3 with
            | none => have := ds5.mut; rw [e] at this; exact this.elim
            | some o => exact s56 _ _ e
          have df7 := s56 _ _ df5
          have hd7 := s56 _ _ hd5
          have tk : m.come.take (i + 1) = m.come.take i ++ [z] := by rw [List.take_add_one, hz']; rfl
          have kn : keysOf m c (i + 1) = push (keysOf m c i) (kf m c z) := by
            unfold keysOf
            rw [tk, List.map_append, List.map_cons, List.map_nil, once_snoc]
          have kl : (keysOf m c i).length ≤ 1000 := by
            unfold keysOf
            have := once_length_le ((m.come.take i).map (kf m c))
            rw [List.length_map, List.length_take] at this
            omega
          have kin : kf m c z ∈ keysOf m c (i + 1) := by rw [kn, mem_push]; exact .inr rfl
          have rest : ∀ (D : Ends) (H8 : Hp), Same H H8 → H8 d = some (.dK (clsD m.come c)) → RDict P w H8 ps3 false (idxD (keysOf m c (i + 1))) → RmAt H8 (.ref k6) (kf m c z) → H8 pf = some (.dK (clsD (m.come.take i) (newC m c))) →
              (∀ H9, Same H H9 → H9 d = some (.dK (clsD m.come c)) → RDict P w H9 ps3 false (idxD (keysOf m c (i + 1))) → H9 pf = some (.dK (clsD (m.come.take (i + 1)) (newC m c))) → D.nx [some (.ref px), some (.ref py), some (.ref r), some (iv z), some (.ref d), some (iv (card (m.come.map c))), some (.ref ps3), some (.ref pf), some (.ref k6), none] H9) →
              sDPut (tVar 7) (tVar 3) (tRGet P w (tVar 6) (tVar 8)) D [some (.ref px), some (.ref py), some (.ref r), some (iv z), some (.ref d), some (iv (card (m.come.map c))), some (.ref ps3), some (.ref pf), some (.ref k6), none] H8 := by
            intro D H8 s8 hd8 d8 rm8 df8 fin8
            have lk := look_idx (keysOf m c (i + 1)) (kf m c z)
            rw [if_pos kin, ← idxOf_pre (keys_pre m c (i + 1)) kin] at lk
            refine ⟨.ref ps3, rfl, .ref k6, rfl, ps3, false, _, kf m c z, _, rfl, d8, rm8, rfl, lk, ?_⟩
            refine ⟨.ref pf, rfl, iv z, rfl, pf, _, rfl, DPut.k (k := .inl (z : Int)) df8 (by rw [List.length_map, List.length_take]; exact small (by omega)), ?_⟩
            have zn : ¬ z ∈ m.come.take i := fun h => by
              obtain ⟨j, hj⟩ := List.mem_iff_getElem?.mp h
              have hj1 := (List.getElem?_eq_some_iff.mp hj).1
              rw [List.length_take] at hj1
              rw [List.getElem?_take_of_lt (by omega)] at hj
              have := (List.getElem?_inj (by omega) (Mc.come_nodup (m := m))).mp (hj.trans hz'.symm)
              omega
            have e9 : putK (clsD (m.come.take i) (newC m c)) (.inl (z : Int)) (iv ((once (m.come.map (kf m c))).idxOf (kf m c z))) = clsD (m.come.take (i + 1)) (newC m c) := by
              rw [putK_new _ (by rw [look_cls, if_neg zn]), tk]
              show _ = List.map _ _
              rw [List.map_append]
              rfl
            rw [e9]
            have dpf8 : d ≠ pf := dpf
            refine fin8 _ (s8.upd npfH) (by rw [upd_ne dpf8]; exact hd8) (d8.same (upd_ne ne1) (Tst.upd fun xs e => by rw [df8] at e; cases e)) upd_same
          have lk := look_idx (keysOf m c i) (kf m c z)
          refine ⟨.ref k6, rfl, .ref ps3, rfl, ps3, false, _, kf m c z, rfl, d7, rm7, rfl, _, rfl, ?_⟩
          by_cases hkin : kf m c z ∈ keysOf m c i
          · refine iteN (by rw [lk, if_pos hkin]; rfl) ?_
            refine rest _ H7 s7 hd7 (by rw [kn, push_in hkin]; exact d7) rm7 df7 fun H9 a1 a2 a3 a4 => ⟨_, _, rfl, a1, a2, a3, a4⟩
          · rw [if_neg hkin] at lk
            refine iteP (by rw [lk]; rfl) ?_
            refine ⟨.ref ps3, rfl, ps3, false, _, rfl, d7, .ref ps3, rfl, .ref k6, rfl, ps3, false, _, kf m c z, rfl, d7, rm7, rfl, lk, by rw [idxD_len]; exact small (by omega), fun o8 d8 => ?_⟩
            rw [idxD_len, ← idxD_snoc, ← push_out hkin, ← kn] at d8
            have tst8 : Tst H7 (upd H7 ps3 o8) := Tst.upd d7.notup
            refine rest _ _ (s7.upd npsH) (by rw [upd_ne dps]; exact hd7) d8 (RmAt.ts rm7 tst8) (by rw [upd_ne (Ne.symm ne1)]; exact df7) fun H9 a1 a2 a3 a4 => ⟨_, _, rfl, a1, a2, a3, a4⟩
        · obtain ⟨y3', y8', rfl, s5, hd5, ds5, df5⟩ := hP
          rw [List.length_map, List.take_length] at df5
          refine ⟨.ref pf, rfl, m.come.length - card (m.come.map c), by omega, newC m c, card (m.come.map c), pf, y3', _, _, y8', rfl, s5, npfH, df5, way.turn hv fun a ha b hb => newC_iff ha hb, rfl⟩
end
end Cw
set_option Elab.async false
set_option linter.all false
set_option maxRecDepth 100000
set_option maxHeartbeats 4000000
/-! least_of, least -/
namespace Cw
open PySem PySem.Spec PyProof.Rows L2 Kw
/-- classes with their places, as a dict -/
abbrev idxK (l : List Nat) : List (L2.Key × V) := (idxD l).map fun p => ((.inl (p.1 : Int) : L2.Key), p.2)
theorem look_idxK (l : List Nat) (t : Nat) : valV (idxK l) (.inl (t : Int)) = if t ∈ l then some (iv (l.idxOf t)) else none := by
  rw [← look_idx l t]
  show valV (List.map _ _) _ = _
  generalize idxD l = kvs
  induction kvs with
  | nil => rfl
  | cons p kvs ih =>
    rw [List.map_cons]
    by_cases e : p.1 = t
    · rw [valV_pos (p := ((Sum.inl (p.1 : Int) : L2.Key), p.2)) (by rw [e]), valV_pos e]
    · rw [valV_neg (p := ((Sum.inl (p.1 : Int) : L2.Key), p.2)) (fun z => e (Int.ofNat_inj.mp (Sum.inl.inj z))), valV_neg e, ih]
theorem idxK_snoc (l : List Nat) (x : Nat) : idxK (l ++ [x]) = idxK l ++ [((.inl (x : Int) : L2.Key), iv l.length)] := by
  show List.map _ _ = List.map _ _ ++ _
  rw [idxD_snoc, List.map_append]
  rfl
section
variable {P : Program} {w : World} {K : PySem.W.Frag} {mg : Str → Option Value} {base : Heap}
def spLeastOf (K : PySem.W.Frag) : Sp := fun vs H Q _ => ∃ (x y : V) (m : Mc) (k : Nat), vs = [x, y] ∧ MvAt H x m.mv ∧ BlsAt H y m.ys ∧ m.Valid k ∧ k ≤ 100 ∧ m.mv.length ≤ 1000 ∧
  ∀ H' p a b, Same H H' → H' p = some (.tup [a, b]) → MvAt H' a m.least.mv → BlsAt H' b m.least.ys → Q (.ref p) H'
theorem ok_leastOf {f fC fP : Addr} {fd fdC fdP : FuncData} (F : Fun K "least_of" "least_of" sLeastOf f fd) (FC : Fun K "come_up" "come_up" sCome fC fdC) (FP : Fun K "parted_rooms" "parted_rooms" sParted fP fdP)
    (bC : Binds K fdC ["moves"] []) (gC : mg "come_up" = some (.ref fC)) (bP : Binds K fdP ["moves", "yes", "rooms"] []) (gP : mg "parted_rooms" = some (.ref fP))
    (mlen : mg "len" = none) (mset : mg "set" = none) (mdict : mg "dict" = none) (mint : mg "int" = none) (mtup : mg "tuple" = none) :
    FnOk P w K mg base CX0 2 f fd ["moves", "yes"] (spLeastOf K) := by
  have GC : FnOk P w K mg base CX0 1 fC fdC ["moves"] (spCome K) := ok_come FC mlen
  have GP : FnOk P w K mg base CX0 1 fP fdP ["moves", "yes", "rooms"] (spParted K) := ok_parted FP mlen mset mdict mint mtup
  refine F.ok scLeastOf (fun vs H Q E h => ?_) (fun cdv A outer s H vs Q E hr h => ?_)
  · obtain ⟨x, y, m, k, rfl, _⟩ := h
    rfl
  · obtain ⟨x, y, m, k, rfl, hx, hy, hv, hk, hz, q⟩ := h
    have nd := scLeastOf.nd
    have hu := hu_of hr
    refine ⟨_, pss_cons (ps_set (i := 2) nd rfl (.inl rfl) (pe_call GC hr (by rfl) gC FC.kp bC .nil pass0 (pa_cons (pv 0) pa_nil)))
      (pss_cons (ps_set (i := 3) nd rfl (.inr rfl) (pe_call GP hr (by rfl) gP FP.kp bP .nil pass0 (pa_cons (pv 0) (pa_cons (pv 1) (pa_cons (pv 2) pa_nil)))))
      (pss_cons (ps_set (i := 4) nd rfl (.inr rfl) pe_dnewK)
      (pss_cons (ps_set (i := 5) nd rfl (.inl rfl) (pe_lst pa_nil))
      (pss_cons (ps_for PassesOwn.never rfl (pi_list (pv 2)) (pg_name (i := 6) nd rfl (.inl rfl))
        (pss_one (ps_if (pt_cmp (pc_dnotin hu (pe_dget hu (pv 3) (pv 6) (fun _ _ => rfl)) (pv 4)))
          (pss_cons (ps_dput hu (pv 4) (pe_dget hu (pv 3) (pv 6) (fun _ _ => rfl)) (pe_callB (lenS K) (by rfl) mlen PySem.boot_len (pa_cons (pv 5) pa_nil)) rfl)
          (pss_one (ps_expr (pe_bm PySem.F.plainAttrs_list PySem.F.slot_list_append PySem.F.type_list_append mt_append (pv 5) (pa_cons (pv 6) pa_nil))))) pss_nil)))
      (pss_cons (ps_set (i := 7) nd rfl (.inl rfl) (pe_callTy (tupOf K) (by rfl) mtup bTuple (pa_cons
        (pe_lc (own := [("room", 6)]) (g := gName 6) (tt := tYes) rfl nd (piL K (pv 5)) (blkOk_by (own := [("room", 6)]) (N := nLeastOf) (sc := defScope sLeastOf) (by decide +kernel)) (fun _ _ _ _ _ => pg_name (i := 6) nd rfl (Or.inl rfl)) (fun _ _ _ _ _ => pts_nil)
          (fun _ _ _ _ _ => pe_callTy (tupOf K) (by rfl) mtup bTuple (pa_cons
            (pe_lc (own := [("to", 8)]) (g := gName 8) (tt := tYes) rfl nd (piT K (pe_ix (ixT K) (pv 0) (pv 6) (fun _ _ => rfl))) (blkOk_by (own := [("to", 8)]) (N := nLeastOf) (by rfl)) (fun _ _ _ _ _ => pg_name (i := 8) nd rfl (Or.inl rfl)) (fun _ _ _ _ _ => pts_nil)
              (fun _ _ _ _ _ => pe_dget hu (pv 4) (pe_dget hu (pv 3) (pv 8) (fun _ _ => rfl)) (fun _ _ => rfl))) pa_nil))) pa_nil)))
      (pss_one (ps_ret (pe_tup (pa_cons (pv 7) (pa_cons (pe_callTy (tupOf K) (by rfl) mtup bTuple (pa_cons
        (pe_lc (own := [("room", 6)]) (g := gName 6) (tt := tYes) rfl nd (piL K (pv 5)) (blkOk_by (own := [("room", 6)]) (N := nLeastOf) (sc := defScope sLeastOf) (by decide +kernel)) (fun _ _ _ _ _ => pg_name (i := 6) nd rfl (Or.inl rfl)) (fun _ _ _ _ _ => pts_nil)
          (fun _ _ _ _ _ => pe_ix (ixT K) (pv 1) (pv 6) (fun _ _ => rfl))) pa_nil)) pa_nil)))))))))), ?_⟩
    have low := Mc.come_lt hv
    have few := Mc.come_len hv
    -- rooms = come_up(moves); classes = parted_rooms(moves, yes, rooms)
    refine ⟨x, rfl, x, m, k, rfl, hx, hv, hz, fun H1 rm st1 hrm => ?_⟩
    refine ⟨x, rfl, y, rfl, .ref rm, rfl, x, y, rm, m, k, rfl, hx.tst st1.tst, hy.tst st1.tst, hrm, hv, hk, hz, fun H2 d c st2 hpar dn hd => ?_⟩
    have s2 := st1.trans st2
    have hrm2 := st2 _ _ hrm
    -- numbers = {}; firsts = []
    refine fun nn nnn => ⟨Nat.zero_le _, fun ff nff => ?_⟩
    have ne1 : nn ≠ ff := fun e => by
      rw [← e, upd_same] at nff
      cases nff
    have nffH : H2 ff = none := by rw [upd_ne (Ne.symm ne1)] at nff; exact nff
    have dnn : d ≠ nn := ne_of_none hd nnn
    have cls : ∀ {H' : Hp}, Same H2 H' → ∀ z ∈ m.come, DGet H' d (iv z) (some (iv (c z))) := fun {H'} st z hz' => by
      have g := DGet.k (k := .inl (z : Int)) (st _ _ hd)
      rw [look_cls, if_pos hz'] at g
      exact g
    refine ⟨.ref rm, rfl, rm, rfl, ⟨_, SqL.of (((Same.new nnn).trans (Same.new nff)) _ _ hrm2)⟩, ?_⟩
    refine for_list (xs := m.come.map iv) (fun i σ' H5 => ∃ y6, σ' = [some x, some y, some (.ref rm), some (.ref d), some (.ref nn), some (.ref ff), y6, none, none] ∧ Same H2 H5 ∧ H5 nn = some (.dK (idxK ((Mc.firstsOf c (m.come.take i)).map c))) ∧ H5 ff = some (.lst ((Mc.firstsOf c (m.come.take i)).map iv)))
      ⟨none, rfl, (Same.new nnn).trans (Same.new nff), by rw [upd_ne ne1, upd_same]; rfl, upd_same⟩ (fun i σ' H5 _ hP => ?_) (fun i v σ' H5 hi hP => ?_) (fun σ' H5 hP => ?_)
    · obtain ⟨_, _, s5, _⟩ := hP
      exact SqL.of (s5 _ _ hrm2)
    · obtain ⟨y6, rfl, s5, hn5, hf5⟩ := hP
      rw [List.getElem?_map] at hi
      obtain ⟨z, hz', rfl⟩ := Option.map_eq_some_iff.mp hi
      have zin := List.mem_of_getElem? hz'
      have tk : m.come.take (i + 1) = m.come.take i ++ [z] := by rw [List.take_add_one, hz']; rfl
      have fn := Mc.firstsOf_snoc c (m.come.take i) z
      rw [← tk] at fn
      have fl : (Mc.firstsOf c (m.come.take i)).length ≤ 1000 := by
        have h1 := congrArg List.length (Mc.firstsOf_map c (m.come.take i))
        have h2 := once_length_le ((m.come.take i).map c)
        rw [List.length_map, List.length_take] at h2
        rw [List.length_map] at h1
        omega
      generalize hfs : Mc.firstsOf c (m.come.take i) = fs at hn5 hf5 fn fl
      have lk := look_idxK (fs.map c) (c z)
      refine ⟨.ref d, rfl, iv z, rfl, d, _, rfl, cls s5 z zin, .ref nn, rfl, nn, _, rfl, DGet.k (k := .inl (c z : Int)) hn5, _, rfl, ?_⟩
      by_cases hin : c z ∈ fs.map c
      · refine iteN (by rw [lk, if_pos hin]; rfl) ⟨_, rfl, s5, ?_, ?_⟩
        · rw [fn, if_pos hin]; exact hn5
        · rw [fn, if_pos hin]; exact hf5
      · rw [if_neg hin] at lk
        refine iteP (by rw [lk]; rfl) ?_
        refine ⟨.ref ff, rfl, ff, _, rfl, .inl (SqL.of hf5), .ref nn, rfl, .ref d, rfl, iv z, rfl, d, _, rfl, cls s5 z zin, nn, _, rfl, DPut.k (k := .inl (c z : Int)) hn5 (by rw [List.length_map, idxD_len, List.length_map]; exact small (by omega)), ?_⟩
        rw [putK_new _ lk]
        have hf6 : (upd H5 nn (.dK (idxK (fs.map c) ++ [((.inl (c z : Int) : L2.Key), V.int ((fs.map iv).length : Nat))]))) ff = some (.lst (fs.map iv)) := by rw [upd_ne (Ne.symm ne1)]; exact hf5
        refine ⟨.ref ff, rfl, .inl ⟨rfl, _, SqL.of hf6⟩, iv z, rfl, ff, _, _, rfl, rfl, hf6, by rw [List.length_map]; exact small (by omega), ?_⟩
        refine ⟨_, rfl, (s5.upd nnn).upd nffH, ?_, ?_⟩
        · rw [upd_ne ne1, upd_same, fn, if_neg hin, List.map_append, List.map_cons, List.map_nil, idxK_snoc, List.length_map, List.length_map]
        · rw [upd_same, fn, if_neg hin, List.map_append]
          rfl
    · obtain ⟨y6, rfl, s5, hn5, hf5⟩ := hP
      rw [List.length_map, List.take_length] at hn5 hf5
      have fin : ∀ r ∈ m.firsts c, r ∈ m.come := Mc.firstsOf_sub c m.come
      have fl : (m.firsts c).length ≤ 1000 := by
        have h1 := congrArg List.length (Mc.firstsOf_map c m.come)
        have h2 := once_length_le (m.come.map c)
        rw [List.length_map] at h1 h2
        unfold Mc.firsts
        omega
      have hf5 : H5 ff = some (.lst ((m.firsts c).map iv)) := hf5
      have hn5 : H5 nn = some (.dK (idxK ((m.firsts c).map c))) := hn5
      have sH := s2.trans s5
      obtain ⟨px, vs, rfl, hpx, hvl, hrow⟩ := (hx.tst sH.tst).row
      obtain ⟨py, rfl, hpy⟩ := hy.tst sH.tst
      -- rows = tuple([..])
      refine ⟨.ref ff, rfl, ff, rfl, ⟨_, SqL.of hf5⟩, fun D6 hD6 => ?_⟩
      refine lc_of_list (xs := (m.firsts c).map iv) (fun j v H' => ∀ r, (m.firsts c)[j]? = some r → NumsAt H' v ((m.succ r).map (m.num c))) (fun i v H1 H2 h st r e => (h r e).tst st) hD6 (fun H6 st6 => SqL.of (st6 _ _ hf5)) (by rw [List.length_map]; exact small' (by omega)) (fun i v hi => ?_) (fun H6 ys st6 hD6l hyl6 hys6 => ?_)
      · intro H6 R S st6 hR
        rw [List.getElem?_map] at hi
        obtain ⟨r, hr', rfl⟩ := Option.map_eq_some_iff.mp hi
        have rin := fin r (List.mem_of_getElem? hr')
        obtain ⟨q', hq1, hq2⟩ := hrow r _ (mv_get (low r rin))
        refine ⟨rfl, ?_⟩
        refine ⟨.ref px, rfl, iv r, rfl, px, _, _, _, rfl, rfl, SqT.of (st6 _ _ hpx), atI_nat hq1, q', rfl, ⟨_, SqT.of (st6 _ _ hq2)⟩, fun D7 hD7 => ?_⟩
        refine lc_of_tup (xs := (m.succ r).map iv) (fun j v _ => ∀ t, (m.succ r)[j]? = some t → v = iv (m.num c t)) (fun i v _ _ h _ => h) hD7 (fun H7 st7 => SqT.of (st7 _ _ (st6 _ _ hq2))) (by rw [List.length_map, Mc.succ_len hv (low r rin)]; exact small' (by omega)) (fun j v hj => ?_) (fun H7 ys st7 hD7l hyl7 hys7 => ?_)
        · intro H7 R' S' st7 hR'
          rw [List.getElem?_map] at hj
          obtain ⟨t, ht, rfl⟩ := Option.map_eq_some_iff.mp hj
          have tin := Mc.come_closed hv rin (List.mem_of_getElem? ht)
          have lk := look_idxK ((m.firsts c).map c) (c t)
          rw [if_pos (Mc.class_in hv tin)] at lk
          have g := DGet.k (k := .inl (c t : Int)) (st7 _ _ (st6 _ _ hn5))
          rw [lk] at g
          refine ⟨rfl, ?_⟩
          refine ⟨.ref nn, rfl, .ref d, rfl, iv t, rfl, d, _, rfl, cls (s5.trans (st6.trans st7)) t tin, nn, _, rfl, g, hR' _ _ (Same.refl _) fun t' e => ?_⟩
          rw [ht] at e
          cases e
          rfl
        · have eys : ys = ((m.succ r).map (m.num c)).map iv := by
            rw [List.map_map]
            exact all_map (f := fun t => iv (m.num c t)) (by rw [hyl7, List.length_map]) hys7
          rw [eys] at hD7l
          refine ⟨D7, _, rfl, .inl ⟨SqL.of hD7l, fun t7 nt7 => hR _ _ (st7.trans (Same.new nt7)) fun r' e => ?_⟩⟩
          rw [hr'] at e
          cases e
          exact ⟨t7, rfl, upd_same⟩
      · refine ⟨D6, _, rfl, .inl ⟨SqL.of hD6l, fun t6 nt6 => ?_⟩⟩
        have st7 : Same H5 (upd H6 t6 (.tup ys)) := st6.trans (Same.new nt6)
        -- (rows, tuple([..]))
        refine ⟨.ref t6, rfl, .ref ff, rfl, ff, rfl, ⟨_, SqL.of (st7 _ _ hf5)⟩, fun D8 hD8 => ?_⟩
        refine lc_of_list (xs := (m.firsts c).map iv) (fun j v _ => ∀ r, (m.firsts c)[j]? = some r → v = .bl (m.y r)) (fun i v H1 H2 h st r e => h r e) hD8 (fun H8 st8 => SqL.of (st8 _ _ (st7 _ _ hf5))) (by rw [List.length_map]; exact small' (by omega)) (fun i v hi => ?_) (fun H8 zs st8 hD8l hzl8 hzs8 => ?_)
        · intro H8 R S st8 hR
          rw [List.getElem?_map] at hi
          obtain ⟨r, hr', rfl⟩ := Option.map_eq_some_iff.mp hi
          have rin := fin r (List.mem_of_getElem? hr')
          refine ⟨rfl, ?_⟩
          refine ⟨.ref py, rfl, iv r, rfl, py, _, _, _, rfl, rfl, SqT.of (st8 _ _ (st7 _ _ hpy)), atI_nat (bl_get (ys_get hv (low r rin))), hR _ _ (Same.refl _) fun r' e => ?_⟩
          rw [hr'] at e
          cases e
          rfl
        · have ezs : zs = ((m.firsts c).map m.y).map V.bl := by
            rw [List.map_map]
            exact all_map (f := fun r => V.bl (m.y r)) (by rw [hzl8, List.length_map]) hzs8
          rw [ezs] at hD8l
          refine ⟨D8, _, rfl, .inl ⟨SqL.of hD8l, fun t8 nt8 => ?_⟩⟩
          refine ⟨by show 2 ≤ sizeLine; decide, fun p9 np9 => ?_⟩
          have el : m.least = m.leastC c := (Mc.least_of hv hpar).symm
          have st9 : Same (upd H6 t6 (.tup ys)) (upd (upd H8 t8 (.tup (((m.firsts c).map m.y).map V.bl))) p9 (.tup [.ref t6, .ref t8])) := st8.trans ((Same.new nt8).trans (Same.new np9))
          have ne9 : t8 ≠ p9 := fun e => by
            rw [← e, upd_same] at np9
            cases np9
          refine q _ p9 (.ref t6) (.ref t8) ((sH.trans st7).trans st9) upd_same ?_ ?_
          · rw [el]
            refine ⟨t6, ys, rfl, st9 _ _ upd_same, paired_of ?_ fun j a b ea eb => ?_⟩
            · rw [hyl6]
              show _ = (List.map _ _).length
              rw [List.length_map, List.length_map]
            · have eb : ((m.firsts c).map fun r => (m.succ r).map (m.num c))[j]? = some b := eb
              rw [List.getElem?_map] at eb
              obtain ⟨r, hr', rfl⟩ := Option.map_eq_some_iff.mp eb
              exact (hys6 j a ea r hr').tst ((Same.new nt6).trans st9).tst
          · rw [el]
            exact ⟨t8, rfl, by rw [upd_ne ne9, upd_same]; rfl⟩
def spLeast (K : PySem.W.Frag) : Sp := fun vs H Q _ => ∃ (x : V) (ls : Str) (m : Mc) (k : Nat), vs = [x] ∧ McAt H x ls m ∧ m.Valid k ∧ k ≤ 100 ∧ m.mv.length ≤ 1000 ∧ ∀ H' v, Same H H' → McAt H' v ls m.least → Q v H'
theorem ok_least {f fL : Addr} {fd fdL : FuncData} (F : Fun K "least" "least" sLeast f fd) (GL : FnOk P w K mg base CX0 2 fL fdL ["moves", "yes"] (spLeastOf K)) (kL : PySem.W.keepIn K (.ref fL) = true) (bL : Binds K fdL ["moves", "yes"] []) (gL : mg "least_of" = some (.ref fL)) :
    FnOk P w K mg base CX0 3 f fd ["machine"] (spLeast K) := by
  refine F.ok scLeast (fun vs H Q E h => ?_) (fun cdv A outer s H vs Q E hr h => ?_)
  · obtain ⟨x, ls, m, k, rfl, _⟩ := h
    rfl
  · obtain ⟨x, ls, m, k, rfl, hx, hv, hk, hz, q⟩ := h
    have nd := scLeast.nd
    refine ⟨_, pss_cons (ps_asg (pv 0) (pg_tup (by rfl) (pgs_cons (pg_name (i := 1) nd rfl (.inl rfl)) (pgs_cons (pg_name (i := 2) nd rfl (.inl rfl)) (pgs_cons (pg_name (i := 3) nd rfl (.inl rfl)) pgs_nil)))))
      (pss_cons (ps_asg (pe_call GL hr (by rfl) gL kL bL .nil pass0 (pa_cons (pv 2) (pa_cons (pv 3) pa_nil))) (pg_tup (by rfl) (pgs_cons (pg_name (i := 4) nd rfl (.inl rfl)) (pgs_cons (pg_name (i := 5) nd rfl (.inl rfl)) pgs_nil))))
      (pss_one (ps_ret (pe_tup (pa_cons (pv 1) (pa_cons (pv 4) (pa_cons (pv 5) pa_nil))))))), ?_⟩
    obtain ⟨p, a, b, rfl, hp, ha, hb⟩ := hx
    refine ⟨.ref p, rfl, p, _, rfl, SqT.of hp, rfl, _, _, rfl, _, _, rfl, _, _, rfl, rfl, ?_⟩
    refine ⟨a, rfl, b, rfl, a, b, m, k, rfl, ha, hb, hv, hk, hz, fun H' p' a' b' st hp' ha' hb' => ?_⟩
    refine ⟨p', _, rfl, SqT.of hp', rfl, _, _, rfl, _, _, rfl, rfl, ?_⟩
    refine ⟨_, rfl, _, rfl, _, rfl, by show 3 ≤ sizeLine; decide, fun t nt => ?_⟩
    exact q _ _ (st.trans (Same.new nt)) ⟨t, a', b', rfl, upd_same, ha'.tst (Tst.new nt), hb'.tst (Tst.new nt)⟩
end
end Cw
set_option Elab.async false
set_option linter.all false
set_option maxRecDepth 100000
set_option maxHeartbeats 4000000
/-! grown_from -/
namespace Cw
open PySem PySem.Spec PyProof.Rows L2 Kw NdefX
section
variable {X : Cx} {k i : Nat} {x : Str} {t : TA} {e : Expr} {es : List Expr} {p pos : Pos}
/-- pe_clo, for the blocks of comprehensions -/
theorem cloK (P : Program) (w : World) (K : PySem.W.Frag) (mg : Str → Option Value) (base : Heap) (hr : Room k X.A) (hN : X.N[i]? = some x) (hv : Vis X.env.scope x) (ha : PA X (e :: es) t)
    (h1 : X.prog = P := by rfl) (h2 : X.w = w := by rfl) (h3 : X.K = K := by rfl) (h4 : X.mg = mg := by rfl) (h5 : X.base = base := by rfl)
    (hd : (x == ("__debug__" : Str)) = false := by decide) (hcd : (x == ("__classdict__" : Str)) = false := by decide)
    (he : starEach (e :: es) X.env = (false, eval e X.env) :: starEach es X.env := by rfl) (hpl : (backTo pos (starEach es X.env)).any (·.1) = false := by rfl) :
    PE X (.Call (.Name x p) (e :: es) [] pos) (tClo P w K mg base k i t) := by
  subst h1 h2 h3 h4 h5
  exact pe_clo hr hN hv ha hd hcd he hpl
end
/-- an if whose both ways lead on alike -/
theorem ite_join {b : Bool} {A : Prop} {R : L2.St → Hp → Prop} {σ : L2.St} {H : Hp} (N : L2.St → Hp → Prop) (hN : ∀ σ' H', N σ' H' → R σ' H') (h1 : b = true → (∀ σ' H', N σ' H' → R σ' H') → A) (h2 : b = false → N σ H) : if b = true then A else R σ H := by
  cases b with
  | true => exact iteT (h1 rfl hN)
  | false => exact iteF (hN _ _ (h2 rfl))
theorem pushAll_len {α : Type} [DecidableEq α] : ∀ (ts rs : List α), (pushAll rs ts).length ≤ rs.length + ts.length
  | [], rs => by rw [pushAll_nil]; omega
  | t :: ts, rs => by
    rw [pushAll_cons]
    have h1 := pushAll_len ts (push rs t)
    have h2 : (push rs t).length ≤ rs.length + 1 := by
      unfold push
      split
      · omega
      · rw [List.length_append, List.length_singleton]; omega
    rw [List.length_cons]
    omega
theorem _root_.Cw.RDict.some' {P : Program} {w : World} {H : Hp} {d : Addr} {fl : Bool} {kvs : List (Rm × V)} (h : RDict P w H d fl kvs) (n : H d = none) : False := by
  have m := h.mut
  cases fl with
  | true => have := h.1; rw [n] at this; cases this
  | false =>
    obtain ⟨_, _, xs, e, _⟩ := h
    rw [n] at e
    cases e
theorem _root_.Cw.RDict.kept {P : Program} {w : World} {H H' : Hp} {d : Addr} {fl : Bool} {kvs : List (Rm × V)} (h : RDict P w H d fl kvs) (s : Same H H') : H' d = H d := by
  cases e : H d with
  | none => exact (h.some' e).elim
  | some o => exact s _ _ e
theorem none_same {H H' : Hp} {a : Addr} (s : Same H H') (h : H' a = none) : H a = none := by
  cases e : H a with
  | none => rfl
  | some o =>
    rw [s _ _ e] at h
    cases h
section
variable {P : Program} {w : World} {K : PySem.W.Frag} {mg : Str → Option Value} {base : Heap}
/-- the function at f answers as the graph says -/
def OnwAt (P : Program) (w : World) (K : PySem.W.Frag) (mg : Str → Option Value) (base : Heap) (j : Nat) (H : Hp) (f : Addr) (k : Nat) (ok : Rm → Prop) (onw : Rm → Nat → Rm) : Prop :=
  ∀ (H' : Hp), Same H H' → ∃ S, Clo P w K mg base j H' f S ∧ ∀ (v : V) (r : Rm) (a : Nat) (Q' : VK), RmAt H' v r → ok r → a < k →
    (∀ H'' u, Same H' H'' → RmAt H'' u (onw r a) → Q' u H'') → S [v, iv a] H' Q'
def IsyAt (P : Program) (w : World) (K : PySem.W.Frag) (mg : Str → Option Value) (base : Heap) (j : Nat) (H : Hp) (f : Addr) (ok : Rm → Prop) (isY : Rm → Bool) : Prop :=
  ∀ (H' : Hp), Same H H' → ∃ S, Clo P w K mg base j H' f S ∧ ∀ (v : V) (r : Rm) (Q' : VK), RmAt H' v r → ok r →
    (∀ H'', Same H' H'' → Q' (.bl (isY r)) H'') → S [v] H' Q'
theorem clo_fno {k : Nat} {H : Hp} {f : Addr} {S : List V → Hp → VK → Prop} (c : Clo P w K mg base k H f S) : ∃ F : NF, H f = some (FnO f F) := c.1
def spGrown (P : Program) (w : World) (K : PySem.W.Frag) (mg : Str → Option Value) (base : Heap) (j : Nat) : Sp := fun vs H Q _ => ∃ (v0 : V) (k most : Nat) (fo fy : Addr) (g : Gr Rm) (ok : Rm → Prop) (fl : Bool),
  vs = [v0, iv k, .ref fo, .ref fy, iv most] ∧ RmAt H v0 g.first ∧ ok g.first ∧ (∀ r, ok r → flat r = fl) ∧ (∀ r a, ok r → a < k → ok (g.onw r a)) ∧ k ≤ 100 ∧ most ≤ 1000 ∧
  OnwAt P w K mg base j H fo k ok g.onw ∧ IsyAt P w K mg base j H fy ok g.isY ∧
  (most < (g.rooms k most).length → ∀ H', Same H H' → Q .non H') ∧
  ((g.rooms k most).length ≤ most → ∀ H' p a b, Same H H' → H' p = some (.tup [a, b]) → MvAt H' a (g.mc k (g.rooms k most)).mv → BlsAt H' b (g.mc k (g.rooms k most)).ys → Q (.ref p) H')
theorem ok_grown {j : Nat} (hj : 1 ≤ j) {f : Addr} {fd : FuncData} (F : Fun K "grown_from" "grown_from" sGrown f fd) (mlen : mg "len" = none) (mtup : mg "tuple" = none) (mrng : mg "range" = none) :
    FnOk P w K mg base CX0 (j + 1) f fd ["first", "many", "onward", "is_yes", "most"] (spGrown P w K mg base j) := by
  refine F.ok scGrown (fun vs H Q E h => ?_) (fun cdv A outer s H vs Q E hr h => ?_)
  · obtain ⟨v0, k, most, fo, fy, g, ok, fl, rfl, _⟩ := h
    rfl
  · obtain ⟨v0, k, most, fo, fy, g, ok, fl, rfl, h0, ok0, okf, oko, hk, hm, hon, his, qN, qT⟩ := h
    have nd := scGrown.nd
    have hu := hu_of hr
    refine ⟨_, pss_cons (ps_set (i := 5) nd rfl (.inl rfl) (pe_rdisp fl hr (pv 0) pe_int))
      (pss_cons (ps_set (i := 6) nd rfl (.inl rfl) (pe_lst (pa_cons (pv 0) pa_nil)))
      (pss_cons (ps_set (i := 7) nd rfl (.inl rfl) (pe_lst pa_nil))
      (pss_cons (ps_while PassesOwn.never (pt_chain op_lt op_le (pe_callB call_len_seq (by rfl) mlen PySem.boot_len (pa_cons (pv 7) pa_nil)) (pe_callB call_len_seq (by rfl) mlen PySem.boot_len (pa_cons (pv 6) pa_nil)) (pv 4))
        (pss_cons (ps_set (i := 8) nd rfl (.inl rfl) (pe_ix ix_list (pv 6) (pe_callB call_len_seq (by rfl) mlen PySem.boot_len (pa_cons (pv 7) pa_nil)) (fun _ _ => rfl)))
        (pss_cons (ps_set (i := 9) nd rfl (.inl rfl) (pe_lst pa_nil))
        (pss_cons (ps_for PassesOwn.never rfl (pi_range1 rfl mrng (pa_cons (pv 1) pa_nil)) (pg_name (i := 10) nd rfl (.inl rfl))
          (pss_cons (ps_set (i := 11) nd rfl (.inl rfl) (pe_clo (i := 2) hr rfl (by first | exact Or.inl rfl | exact Or.inr (Or.inl rfl)) (pa_cons (pv 8) (pa_cons (pv 10) pa_nil))))
          (pss_cons (ps_if (pt_cmp (pc_rnotin hr (pv 11) (pv 5)))
            (pss_cons (ps_rput hr (pv 5) (pv 11) (pe_callB call_len_seq (by rfl) mlen PySem.boot_len (pa_cons (pv 6) pa_nil)) rfl)
            (pss_one (ps_expr (pe_bm PySem.F.plainAttrs_list PySem.F.slot_list_append PySem.F.type_list_append mt_append (pv 6) (pa_cons (pv 11) pa_nil))))) pss_nil)
          (pss_one (ps_expr (pe_bm PySem.F.plainAttrs_list PySem.F.slot_list_append PySem.F.type_list_append mt_append (pv 9) (pa_cons (pe_rget hr (pv 5) (pv 11) (fun _ _ => rfl)) pa_nil)))))))
        (pss_one (ps_expr (pe_bm PySem.F.plainAttrs_list PySem.F.slot_list_append PySem.F.type_list_append mt_append (pv 7) (pa_cons (pe_callTy call_tuple_of (by rfl) mtup bTuple (pa_cons (pv 9) pa_nil)) pa_nil))))))))
      (pss_cons (ps_if (pt_cmpR op_gt (pe_callB call_len_seq (by rfl) mlen PySem.boot_len (pa_cons (pv 6) pa_nil)) (pv 4) (nomark _)) (pss_one (ps_ret pe_non)) pss_nil)
      (pss_one (ps_ret (pe_tup (pa_cons (pe_callTy call_tuple_of (by rfl) mtup bTuple (pa_cons (pv 7) pa_nil)) (pa_cons (pe_callTy (tupOf K) (by rfl) mtup bTuple (pa_cons
        (pe_lc (own := [("room", 8)]) (g := gName 8) (tt := tYes) rfl nd (piL K (pv 6)) (blkOk_by (own := [("room", 8)]) (N := nGrown) (sc := defScope sGrown) (by decide +kernel)) (fun _ _ _ _ _ => pg_name (i := 8) nd rfl (Or.inl rfl)) (fun _ _ _ _ _ => pts_nil)
          (fun _ _ _ _ _ => cloK (i := 3) P w K mg base hr (x := "is_yes") (by rfl) (by first | exact Or.inl rfl | exact Or.inr (Or.inl rfl) | exact Or.inr (Or.inr rfl)) (pa_cons (pv 8) pa_nil))) pa_nil)) pa_nil))))))))), ?_⟩
    -- numbers = {first: 0}; rooms = [first]; moves = []
    refine fun p np => ⟨v0, rfl, upd_same, g.first, h0.ts (Tst.new np), okf _ ok0, fun o d => ?_⟩
    refine ⟨v0, rfl, by show 1 ≤ sizeLine; decide, fun r nr => ?_⟩
    have npr : p ≠ r := fun e => by
      rw [← e, upd_same] at nr
      cases nr
    have nrH : H r = none := by rw [upd_ne (Ne.symm npr), upd_ne (Ne.symm npr)] at nr; exact nr
    refine ⟨by show 0 ≤ sizeLine; decide, fun mm nmm => ?_⟩
    have nrm : r ≠ mm := fun e => by
      rw [← e, upd_same] at nmm
      cases nmm
    rw [upd_ne (Ne.symm nrm)] at nmm
    have npm : p ≠ mm := fun e => by
      rw [← e, upd_same] at nmm
      cases nmm
    rw [upd_ne (Ne.symm npm), upd_ne (Ne.symm npm)] at nmm
    let rm : Nat → List Rm := fun n => it (g.succ k) g.first n
    have okr : ∀ n, ∀ t ∈ rm n, ok t := it_all ok0 fun t u ht hu => by
      obtain ⟨a, ha, rfl⟩ := List.mem_map.mp hu
      exact oko t a ht (List.mem_range.mp ha)
    let Inv : Nat → List V → List V → Hp → Prop := fun n vs ms H' => Same H H' ∧ RDict P w H' p fl (idxD (rm n)) ∧ H' r = some (.lst vs) ∧ Paired (RmAt H') vs (rm n) ∧ H' mm = some (.lst ms) ∧ ms.length = n ∧
      ∀ (j : Nat) (y : V), ms[j]? = some y → ∀ rr, (rm n)[j]? = some rr → NumsAt H' y ((g.succ k rr).map (rm n).idxOf)
    refine while_m (fun m σ H' => ∃ n vs ms y8 y9 y10 y11, m = most + 1 - n ∧ σ = [some v0, some (iv k), some (.ref fo), some (.ref fy), some (iv most), some (.ref p), some (.ref r), some (.ref mm), y8, y9, y10, y11] ∧ Inv n vs ms H' ∧ ∀ j < n, j < (rm j).length ∧ (rm j).length ≤ most)
      ⟨most + 1, 0, [v0], [], none, none, none, none, rfl, rfl, ⟨?_, ?_, ?_, ?_, upd_same, rfl, fun j y e => by simp at e⟩, fun j hj => absurd hj (by omega)⟩ (fun m σ H' hI => ?_)
    · exact (((((Same.refl H).upd np).upd np).upd nrH).upd nmm)
    · exact (d.same (upd_ne npr) (Tst.new nr)).same (upd_ne npm) (Tst.new (by rw [upd_ne (Ne.symm nrm), upd_ne (Ne.symm npm), upd_ne (Ne.symm npm)]; exact nmm))
    · rw [upd_ne nrm, upd_same]
    · refine .cons (h0.ts ?_) .nil
      exact (((((Same.refl H).upd np).upd np).upd nrH).upd nmm).tst
    · obtain ⟨n, vs, ms, y8, y9, y10, y11, rfl, rfl, ⟨hs, hd, hl, hpv, hmm, hml, hmr⟩, hlt⟩ := hI
      have hvl : vs.length = (rm n).length := Paired.length hpv
      have nm : n ≤ most := by
        by_cases z : n = 0
        · omega
        · have := hlt (n - 1) (by omega)
          omega
      refine ⟨.ref mm, rfl, mm, _, rfl, .inl (SqL.of hmm), .ref r, rfl, r, _, rfl, .inl (SqL.of hl), _, _, rfl, rfl, _, rfl, ?_⟩
      by_cases hc : n < (rm n).length ∧ (rm n).length ≤ most
      · obtain ⟨hn, hle⟩ := hc
        refine iteP (decide_eq_true (by omega)) ⟨iv most, rfl, _, _, rfl, rfl, _, rfl, iteP (decide_eq_true (by omega)) ?_⟩
        have er : (rm n)[n]? = some (rm n)[n] := List.getElem?_eq_getElem hn
        generalize hroom : (rm n)[n] = room at er
        obtain ⟨v, hv, hvr⟩ := paired_get hpv n room er
        have okroom := okr n room (List.mem_of_getElem? er)
        have nx1 : rm (n + 1) = pushAll (rm n) (g.succ k room) := it_some er
        have tkl : ∀ i, i < k → (g.succ k room).take (i + 1) = (g.succ k room).take i ++ [g.onw room i] := fun i hi => by
          rw [List.take_add_one]
          have : (g.succ k room)[i]? = some (g.onw room i) := by
            show ((List.range k).map (g.onw room))[i]? = _
            rw [List.getElem?_map, List.getElem?_range hi]
            rfl
          rw [this]
          rfl
        have sl : (g.succ k room).length = k := by
          show ((List.range k).map (g.onw room)).length = k
          rw [List.length_map, List.length_range]
        have curl : ∀ i, (pushAll (rm n) ((g.succ k room).take i)).length ≤ 1100 := fun i => by
          have h1 : (pushAll (rm n) ((g.succ k room).take i)).length ≤ (rm n).length + ((g.succ k room).take i).length := pushAll_len _ _
          rw [List.length_take] at h1
          omega
        -- room = rooms[len(moves)]; row = []
        refine ⟨_, fun σ' H' h => h, ?_⟩
        refine ⟨.ref r, rfl, .ref mm, rfl, mm, _, rfl, .inl (SqL.of hmm), r, _, _, _, rfl, rfl, SqL.of hl, atI_nat (by rw [hml]; exact hv), ?_⟩
        refine ⟨by show 0 ≤ sizeLine; decide, fun rw nrw => ?_⟩
        have nrwH := none_same hs nrw
        have nwr : rw ≠ r := (ne_of_none hl nrw).symm
        have nwm : rw ≠ mm := (ne_of_none hmm nrw).symm
        have nwp : rw ≠ p := fun e => hd.some' (by rw [← e]; exact nrw)
        -- for k in range(many)
        refine ⟨iv k, rfl, (k : Int), rfl, by omega, by omega, ?_⟩
        refine for_range (n := k) (fun i σ' H'' => ∃ vs' y10 y11, σ' = [some v0, some (iv k), some (.ref fo), some (.ref fy), some (iv most), some (.ref p), some (.ref r), some (.ref mm), some v, some (.ref rw), y10, y11] ∧
            Same H H'' ∧ RDict P w H'' p fl (idxD (pushAll (rm n) ((g.succ k room).take i))) ∧ H'' r = some (.lst vs') ∧ Paired (RmAt H'') vs' (pushAll (rm n) ((g.succ k room).take i)) ∧ H'' mm = some (.lst ms) ∧ Tst H' H'' ∧
            H'' rw = some (.lst ((((g.succ k room).take i).map (pushAll (rm n) ((g.succ k room).take i)).idxOf).map iv)))
          ⟨vs, y10, y11, rfl, hs.upd nrwH, hd.same (upd_ne (Ne.symm nwp)) (Tst.new nrw), by rw [upd_ne (Ne.symm nwr)]; exact hl, Paired.mapP hpv fun _ _ z => z.ts (Tst.new nrw), by rw [upd_ne (Ne.symm nwm)]; exact hmm, Tst.new nrw, upd_same⟩ (fun i σ' H'' hi hP => ?_) (fun σ' H'' hP => ?_)
        · obtain ⟨vs', z10, z11, rfl, hs2, hd2, hl2, hp2, hm2, ts2, hw2⟩ := hP
          have z : (0 : Int) + (i : Int) = (i : Int) := Int.zero_add _
          rw [z]
          have nx2 : pushAll (rm n) ((g.succ k room).take (i + 1)) = push (pushAll (rm n) ((g.succ k room).take i)) (g.onw room i) := by rw [tkl i hi, pushAll_snoc]
          have cl := curl i
          have il : ((g.succ k room).take i).length = i := by rw [List.length_take]; omega
          have tk2 := tkl i hi
          have inn : ∀ t ∈ (g.succ k room).take i, t ∈ pushAll (rm n) ((g.succ k room).take i) := fun t ht => mem_pushAll.mpr (.inr ht)
          generalize hcur : pushAll (rm n) ((g.succ k room).take i) = cur at hd2 hl2 hp2 hw2 nx2 cl inn
          generalize hti : (g.succ k room).take i = ti at hw2 tk2 il inn
          generalize ht' : g.onw room i = t at nx2 tk2
          have okt : ok t := ht' ▸ oko room i okroom hi
          have hvl2 : vs'.length = cur.length := Paired.length hp2
          obtain ⟨So, co, so⟩ := hon H'' hs2
          refine ⟨fo, rfl, co.1, v, rfl, iv i, rfl, So, co, so v room i _ (hvr.ts ts2) okroom hi fun H3 u st3 hu => ?_⟩
          rw [ht'] at hu
          have hd3 := hd2.same (hd2.kept st3) st3.tst
          have hl3 := st3 _ _ hl2
          have lk := look_idx cur t
          refine ⟨u, rfl, .ref p, rfl, p, fl, _, t, rfl, hd3, hu, okf _ okt, _, rfl, ?_⟩
          refine ite_join (fun σ'' H4 => ∃ vs4, σ'' = [some v0, some (iv k), some (.ref fo), some (.ref fy), some (iv most), some (.ref p), some (.ref r), some (.ref mm), some v, some (.ref rw), some (iv i), some u] ∧
            Same H H4 ∧ RDict P w H4 p fl (idxD (push cur t)) ∧ H4 r = some (.lst vs4) ∧ Paired (RmAt H4) vs4 (push cur t) ∧ H4 mm = some (.lst ms) ∧ Tst H' H4 ∧ H4 rw = some (.lst ((ti.map cur.idxOf).map iv)) ∧ RmAt H4 u t) (fun σ'' H4 hN => ?_) (fun hb hN => ?_) (fun hb => ?_)
          · -- row.append(numbers[to])
            obtain ⟨vs4, rfl, hs4, hd4, hl4, hp4, hm4, ts4, hw4, hu4⟩ := hN
            have tin : t ∈ push cur t := mem_push.mpr (.inr rfl)
            have lk4 := look_idx (push cur t) t
            rw [if_pos tin] at lk4
            refine ⟨.ref rw, rfl, .inl ⟨rfl, _, SqL.of hw4⟩, .ref p, rfl, u, rfl, p, fl, _, t, _, rfl, hd4, hu4, okf _ okt, lk4, rw, _, _, rfl, rfl, hw4, by rw [List.length_map, List.length_map, il]; exact small (by omega), ?_⟩
            have e4 : ((ti.map cur.idxOf).map iv) ++ [iv ((push cur t).idxOf t)] = (((ti ++ [t]).map (push cur t).idxOf).map iv) := by
              rw [List.map_append, List.map_append]
              congr 2
              exact List.map_congr_left fun x hx => (idxOf_pre push_pre (inn x hx)).symm
            have tw : Tst H4 (upd H4 rw (.lst (((ti.map cur.idxOf).map iv) ++ [iv ((push cur t).idxOf t)]))) := ts_lst hw4
            refine ⟨vs4, _, _, rfl, hs4.upd nrwH, ?_, by rw [upd_ne (Ne.symm nwr)]; exact hl4, ?_, by rw [upd_ne (Ne.symm nwm)]; exact hm4, ts4.trans tw, ?_⟩
            · rw [nx2]
              exact hd4.same (upd_ne (Ne.symm nwp)) tw
            · rw [nx2]
              exact Paired.mapP hp4 fun _ _ z => z.ts tw
            · rw [nx2, tk2, e4, upd_same]
          · -- a new room
            have tni : ¬ t ∈ cur := fun q => by
              rw [lk, if_pos q] at hb
              cases hb
            rw [if_neg tni] at lk
            refine ⟨.ref r, rfl, r, _, rfl, .inl (SqL.of hl3), .ref p, rfl, u, rfl, p, fl, _, t, rfl, hd3, hu, okf _ okt, lk, by rw [idxD_len]; exact small (by omega), fun o2 d2 => ?_⟩
            have t4 : Tst H3 (upd H3 p o2) := Tst.upd hd3.notup
            have hl4 : (upd H3 p o2) r = some (.lst vs') := by rw [upd_ne (Ne.symm npr)]; exact hl3
            refine ⟨.ref r, rfl, .inl ⟨rfl, _, SqL.of hl4⟩, u, rfl, r, _, _, rfl, rfl, hl4, by rw [hvl2]; exact small (by omega), ?_⟩
            have t5 : Tst (upd H3 p o2) (upd (upd H3 p o2) r (.lst (vs' ++ [u]))) := ts_lst hl4
            refine hN _ _ ⟨_, rfl, ((hs2.trans st3).upd np).upd nrH, ?_, upd_same, ?_, ?_, (ts2.trans st3.tst).trans (t4.trans t5), ?_, hu.ts (t4.trans t5)⟩
            · rw [push_out tni, idxD_snoc, ← hvl2]
              exact d2.same (upd_ne npr) t5
            · rw [push_out tni]
              exact Paired.snoc (Paired.mapP hp2 fun _ _ z => z.ts (st3.tst.trans (t4.trans t5))) (hu.ts (t4.trans t5))
            · rw [upd_ne (Ne.symm nrm), upd_ne (Ne.symm npm)]
              exact st3 _ _ hm2
            · rw [upd_ne nwr, upd_ne nwp]
              exact st3 _ _ hw2
          · have tin : t ∈ cur := by
              by_cases q : t ∈ cur
              · exact q
              · rw [lk, if_neg q] at hb
                cases hb
            refine ⟨vs', rfl, hs2.trans st3, ?_, hl3, ?_, st3 _ _ hm2, ts2.trans st3.tst, st3 _ _ hw2, hu⟩
            · rw [push_in tin]
              exact hd3
            · rw [push_in tin]
              exact Paired.mapP hp2 fun _ _ z => z.ts st3.tst
        · -- moves.append(tuple(row))
          obtain ⟨vs', z10, z11, rfl, hs2, hd2, hl2, hp2, hm2, ts2, hw2⟩ := hP
          rw [show (g.succ k room).take k = g.succ k room from List.take_of_length_le (Nat.le_of_eq sl), ← nx1] at hd2 hp2 hw2
          refine ⟨.ref mm, rfl, .inl ⟨rfl, _, SqL.of hm2⟩, .ref rw, rfl, rw, _, rfl, .inl ⟨SqL.of hw2, fun tt ntt => ?_⟩⟩
          have nmt : mm ≠ tt := ne_of_none hm2 ntt
          have nrt : r ≠ tt := ne_of_none hl2 ntt
          have npt : p ≠ tt := fun e => hd2.some' (by rw [e]; exact ntt)
          have hm3 : (upd H'' tt (.tup (((g.succ k room).map (rm (n + 1)).idxOf).map iv))) mm = some (.lst ms) := by rw [upd_ne nmt]; exact hm2
          refine ⟨mm, _, _, rfl, rfl, hm3, by rw [hml]; exact small (by omega), ?_⟩
          have t3 : Tst H'' (upd H'' tt (.tup (((g.succ k room).map (rm (n + 1)).idxOf).map iv))) := Tst.new ntt
          have t4 : Tst (upd H'' tt (.tup (((g.succ k room).map (rm (n + 1)).idxOf).map iv))) (upd (upd H'' tt (.tup (((g.succ k room).map (rm (n + 1)).idxOf).map iv))) mm (.lst (ms ++ [.ref tt]))) := ts_lst hm3
          have t5 := t3.trans t4
          refine ⟨most + 1 - (n + 1), by omega, n + 1, vs', ms ++ [.ref tt], _, _, _, _, rfl, rfl, ⟨(hs2.trans (Same.new ntt)).upd nmm, ?_, ?_, ?_, upd_same, by rw [List.length_append, hml]; rfl, fun jj y e rr er2 => ?_⟩, fun jj hj => ?_⟩
          · exact (hd2.same (upd_ne npt) t3).same (upd_ne npm) t4
          · rw [upd_ne nrm, upd_ne nrt]
            exact hl2
          · exact Paired.mapP hp2 fun _ _ z => z.ts t5
          · by_cases hjn : jj < n
            · rw [List.getElem?_append_left (by rw [hml]; exact hjn)] at e
              have er3 : (rm n)[jj]? = some rr := by
                have hjl : jj < (rm n).length := by omega
                have := it_at (succ := g.succ k) (a := g.first) (Nat.le_succ n) (List.getElem?_eq_getElem hjl)
                have er2 : (it (g.succ k) g.first (n + 1))[jj]? = some rr := er2
                rw [this] at er2
                rw [← er2]
                exact List.getElem?_eq_getElem hjl
              have q := (hmr jj y e rr er3).tst (ts2.trans t5)
              have : (g.succ k rr).map (rm (n + 1)).idxOf = (g.succ k rr).map (rm n).idxOf := List.map_congr_left fun x hx => idxOf_pre (it_pre1 n) (it_done hjn er3 hx)
              rw [this]
              exact q
            · have hjn2 : jj = n := by
                have := (List.getElem?_eq_some_iff.mp e).1
                rw [List.length_append, List.length_singleton, hml] at this
                omega
              subst hjn2
              rw [List.getElem?_append_right (by omega), hml, Nat.sub_self] at e
              cases e
              have er2' := it_at (succ := g.succ k) (a := g.first) (Nat.le_succ jj) er
              have er2 : (it (g.succ k) g.first (jj + 1))[jj]? = some rr := er2
              rw [er2'] at er2
              cases er2
              exact ⟨tt, rfl, by rw [upd_ne (Ne.symm nmt), upd_same]⟩
          · by_cases q : jj = n
            · rw [q]; exact ⟨hn, hle⟩
            · exact hlt jj (by omega)
      · rcases Nat.lt_or_ge n (rm n).length with hn | hn
        all_goals first
          | refine iteP (decide_eq_true (by omega)) ⟨iv most, rfl, _, _, rfl, rfl, _, rfl, iteN (decide_eq_false (by omega)) ?_⟩
          | refine iteN (decide_eq_false (by omega)) ⟨_, rfl, iteN rfl ?_⟩
        all_goals refine ⟨.ref r, rfl, r, _, rfl, .inl (SqL.of hl), iv most, rfl, _, _, rfl, rfl, _, rfl, ?_⟩
        all_goals by_cases hbig : most < (rm n).length
        all_goals first
          | refine iteN (decide_eq_false (by rw [hvl]; omega)) ?_
          | refine iteP (decide_eq_true (by rw [hvl]; omega)) (qN ?_ _ hs)
        all_goals try exact Nat.lt_of_lt_of_le hbig (it_len_mono nm)
        all_goals try (exfalso; omega)
        all_goals
          have en : g.rooms k most = rm n := it_stop (by omega) nm
          have ll : (g.rooms k most).length ≤ most := by rw [en]; omega
          have nn : n = (rm n).length := by
            have h1 : (rm (n - 1)).length ≤ (rm n).length := it_len_mono (by omega)
            by_cases z : n = 0
            · have := it_pos (succ := g.succ k) (a := g.first) n
              have : 0 < (rm n).length := this
              omega
            · have := (hlt (n - 1) (by omega)).1
              omega
          refine ⟨.ref mm, rfl, mm, _, rfl, .inl ⟨SqL.of hmm, fun t6 nt6 => ?_⟩⟩
          have hl6 : (upd H' t6 (.tup ms)) r = some (.lst vs) := by rw [upd_ne (ne_of_none hl nt6)]; exact hl
          have s6 : Same H (upd H' t6 (.tup ms)) := hs.trans (Same.new nt6)
          refine ⟨.ref r, rfl, r, rfl, ⟨_, SqL.of hl6⟩, fun D8 hD8 => ?_⟩
          refine lc_of_list (xs := vs) (fun j v _ => ∀ t, (rm n)[j]? = some t → v = .bl (g.isY t)) (fun i v H1 H2 h st r e => h r e) hD8 (fun H8 st8 => SqL.of (st8 _ _ hl6)) (by rw [hvl]; exact small' (by omega)) (fun i v hi => ?_) (fun H8 zs st8 hD8l hzl8 hzs8 => ?_)
          · intro H8 R S st8 hR
            obtain ⟨t, ht, hvt⟩ := paired_getL hpv i v hi
            have st9 := (Same.new nt6).trans st8
            obtain ⟨Sy, cy, sy⟩ := his H8 (hs.trans st9)
            refine ⟨rfl, ?_⟩
            refine ⟨fy, rfl, cy.1, v, rfl, Sy, cy, sy v t _ (hvt.ts st9.tst) (okr n t (List.mem_of_getElem? ht)) fun H9 st10 => hR _ _ st10 fun t' e => ?_⟩
            rw [ht] at e
            cases e
            rfl
          · have ezs : zs = ((rm n).map g.isY).map V.bl := by
              rw [List.map_map]
              exact all_map (f := fun r => V.bl (g.isY r)) (by rw [hzl8, hvl]) hzs8
            rw [ezs] at hD8l
            refine ⟨D8, _, rfl, .inl ⟨SqL.of hD8l, fun t8 nt8 => ?_⟩⟩
            refine ⟨by show 2 ≤ sizeLine; decide, fun p9 np9 => ?_⟩
            have st9 : Same (upd H' t6 (.tup ms)) (upd (upd H8 t8 (.tup (((rm n).map g.isY).map V.bl))) p9 (.tup [.ref t6, .ref t8])) := st8.trans ((Same.new nt8).trans (Same.new np9))
            have ne9 : t8 ≠ p9 := fun e => by
              rw [← e, upd_same] at np9
              cases np9
            refine qT ll _ p9 (.ref t6) (.ref t8) (s6.trans st9) upd_same ?_ ?_
            · rw [en]
              refine ⟨t6, ms, rfl, st9 _ _ upd_same, paired_of ?_ fun j a b ea eb => ?_⟩
              · rw [hml, Gr.mc_len]
                exact nn
              · have eb : ((rm n).map fun r => (g.succ k r).map fun t => (rm n).idxOf t)[j]? = some b := eb
                rw [List.getElem?_map] at eb
                obtain ⟨rr, hr', rfl⟩ := Option.map_eq_some_iff.mp eb
                exact (hmr j a ea rr hr').tst ((Same.new nt6).trans st9).tst
            · rw [en]
              exact ⟨t8, rfl, by rw [upd_ne ne9, upd_same]; rfl⟩
end
end Cw
set_option Elab.async false
set_option linter.all false
set_option maxRecDepth 100000
set_option maxHeartbeats 4000000
/-! TooMany: made, raised. -/
namespace Cw
open PySem PySem.Spec PyProof.Rows L2 Kw
/-- what the written part says of TooMany, at C, its __init__, at fI, and CalmError, at B -/
structure TmTxt (K : PySem.W.Frag) (mg : Str → Option Value) (B C fI : Addr) : Prop where
  T : OexC K C
  gC : mg "TooMany" = some (.ref C)
  gB : mg "CalmError" = some (.ref B)
  iC : PySem.W.findIn K (.ref C) "__init__" = some (some (.ref fI))
  tI : PySem.W.typeIn K (.ref fI) = some (.type "function")
  noAt : PySem.W.findIn K (.ref C) "at" = some none
  bGa : PySem.W.specialIn K (.ref B) "__getattribute__" = some (some (.builtin "type.__getattribute__"))
  bTy : PySem.W.typeIn K (.ref B) = some (.type "type")
  bRd : PySem.W.readsIn K B (.type "type") = true
  bIn : PySem.W.findCls K (.ref B) (.type "type") "__init__" = some (.val (.builtin "ValueError.__init__"))
  te : PySem.W.exmOne K (.ref C) (.ref C) = some true
  xf : XfC K C
/-- the promise of __init__ -/
def spTm (C : Addr) : Sp := fun vs H Q _ => ∃ (a : Addr) (v : V), vs = [.ref a, v] ∧ H a = some (exo a C none) ∧ ∀ dx, H dx = none → dx ≠ a → Q .non (upd (upd H dx (exd dx [("at", v)])) a (exo a C (some dx)))
section
variable {X : Cx} {e : Expr} {es : List Expr} {ta : TA} {p1 p2 pos : Pos} {B C fI : Addr}
/-- CalmError.__init__(self, ..) -/
theorem pe_clsinit {pl : Sem Bool} (t : TmTxt X.K X.mg B C fI) (hg : Gl X "CalmError") (ha : PA X (e :: es) ta)
    (hc : eval (.Call (.Attribute (.Name "CalmError" p1) "__init__" p2) (e :: es) [] pos) X.env = (do
      let ov ← eval (.Name "CalmError" p1) X.env
      standAt p2.atName
      let (f, first) ← holding [ov] (getMethod ov "__init__" pl)
      callWith pos f first (backTo pos (starEach (e :: es) X.env)) (backToKw pos (keywordEach [] X.env))) := by rfl)
    (he : starEach (e :: es) X.env = (false, eval e X.env) :: starEach es X.env := by rfl) (hpl : (backTo pos (starEach es X.env)).any (·.1) = false := by rfl) :
    PE X (.Call (.Attribute (.Name "CalmError" p1) "__init__" p2) (e :: es) [] pos) (tVeI X.K ta) := by
  refine ⟨fun pins s σ H Q I h => ?_⟩
  refine PySem.W.methodCall_KW (ld_glob I hg t.gB ?_ (by decide)) hc
  obtain ⟨m, fr⟩ := I.fr
  refine PySem.W.method_of_cls fr I.ok.mod.kin t.bGa (PySem.W.cls_val fr I.ok.mod.kin t.bTy t.bRd t.bIn (by decide +kernel) ?_)
  show wpAny _ _ (callWith pos (Value.builtin "ValueError.__init__") [] (backTo pos (starEach (e :: es) X.env)) []) _ _ _
  refine PyProof.Rows.callWith_method1 (thn (ha.run pos pins _ σ H _ (I.tok _) h) fun us s1 ⟨vs, H1, I1, r1, a, C', ws, ev, hl, T, ea, q⟩ => ?_) he hpl
  subst ev
  cases r1 with
  | @cons _ u0 _ ur ra rw' =>
    obtain rfl : u0 = Value.ref a := ra
    have hlen : ur.length ≤ sizeLine := by
      rw [← Paired.length rw', sizeLine_eq]
      omega
    exact oinit_ok T I1 ea hlen fun s' J => ⟨.non, H1, J, rfl, q⟩
end
section
variable {P : Program} {w : World} {K : PySem.W.Frag} {mg : Str → Option Value} {base : Heap} {B C fI : Addr}
theorem tm_read {X : Cx} (hK : X.K = K) (t : TmTxt K mg B C fI) {vs : List V} {H : Hp} {Q : VK} {E : XK} (h : spTm C vs H Q E) :
    tSeq (tDrop (tVeI X.K (tCons (tVar 0) (tCons (tVar 1) tNil)))) (tOst X.K "at" (tVar 0) (tVar 1)) { nx := fun _ H' => Q .non H', rt := Q } (L2.start ["self", "at"] vs) H := by
  subst hK
  obtain ⟨a, v, rfl, ha, q⟩ := h
  refine ⟨.ref a, rfl, v, rfl, a, C, [v], rfl, by show 1 ≤ 1000; decide, t.T, ha, ?_⟩
  exact ⟨v, rfl, .ref a, rfl, a, C, rfl, t.T, t.noAt, .inl ⟨ha, q⟩⟩
theorem ok_tm {fd : FuncData} (F : Fun K "__init__" "TooMany.__init__" sTooManyI fI fd) (t : TmTxt K mg B C fI) : FnOk P w K mg base CX0 1 fI fd ["self", "at"] (spTm C) := by
  refine F.ok scTooManyI (fun vs H Q E h => ?_) (fun cdv A outer s H vs Q E hr h => ?_)
  · obtain ⟨a, v, rfl, _⟩ := h
    rfl
  · exact ⟨_, pss_cons (ps_expr (pe_clsinit t (by rfl) (pa_cons (pv 0) (pa_cons (pv 1) pa_nil)))) (pss_one (ps_ost (pv 0) (pv 1))), tm_read rfl t h⟩
theorem ok_tmH {fd : FuncData} (F : Fun K "__init__" "TooMany.__init__" sTooManyI fI fd) (t : TmTxt K mg B C fI) : L2H.FnH P w K mg base CX0 1 fI fd ["self", "at"] (spTm C) := by
  obtain ⟨oc, od, kV, doc, pm, an, cdv, ct, osl, rfl, lk, hcd⟩ := F.ex
  refine L2H.fn_ofH lk hcd scTooManyI (fun vs H Q E h => ?_) (fun A outer s H vs Q E p hot hr h => ?_)
  · obtain ⟨a, v, rfl, _⟩ := h
    rfl
  · exact ⟨_, pss_cons (ps_expr (pe_clsinit t (by rfl) (pa_cons (pv 0) (pa_cons (pv 1) pa_nil)))) (pss_one (ps_ost (pv 0) (pv 1))), tm_read rfl t h⟩
end
section
variable {X : Cx} {e : Expr} {es : List Expr} {ta : TA} {p pos : Pos} {B C fI : Addr} {k : Nat} {fd : FuncData}
/-- TooMany(e), nothing being handled: its context is None -/
theorem pmk_tm (t : TmTxt X.K X.mg B C fI) (F1 : FnOk X.prog X.w X.K X.mg X.base CX0 k fI fd ["self", "at"] (spTm C)) (hr : Room (k + 1) X.A) (hb : Binds X.K fd ["self", "at"] []) (hg : Gl X "TooMany") (ha : PA X (e :: es) ta)
    (he : starEach (e :: es) X.env = (false, eval e X.env) :: starEach es X.env := by rfl) (hpl : (backTo pos (starEach es X.env)).any (·.1) = false := by rfl) :
    L2N.PMk X (.Call (.Name "TooMany" p) (e :: es) [] pos) (tMkO C (spTm C) [] ta) := by
  have T := t.T
  intro pins s σ H Q I h
  obtain ⟨nm, q, N, bs, bm, sn, sub, ab, col, dd, k0, k1, k2, k3, k5, hC, hbm⟩ := T.cls
  refine wpAny_Call_Name_kw (ld_glob I hg t.gC ?_ (by decide))
  refine PySem.W.callWith_K (h₀ := X.base) I.ok.mod.kin T.kC (thn (ha.run pos pins s σ H _ I h) fun us s1 ⟨vs, H1, I1, r1, hz, q1⟩ => ⟨I1.kIn, ?_⟩) he hpl
  show wpAny _ _ (call (.ref C) us) _ _ _
  obtain ⟨hp, g, dr, tk, os⟩ := s1
  have hn : H1 (hp.objs.size + 1) = none := I1.hok.fresh (Nat.le_succ _)
  have hq := q1 (hp.objs.size + 1) hn
  rw [List.append_nil] at hq
  have old : ∀ b o, hp.get? b = some o → ((hp.push (PySem.W.kdv_tup us)).push (PySem.HandSPX.excO C hp.objs.size)).get? b = some o := fun b o e => Heap.get?_push_of_some _ (Heap.get?_push_of_some _ e)
  have new : ((hp.push (PySem.W.kdv_tup us)).push (PySem.HandSPX.excO C hp.objs.size)).get? (hp.objs.size + 1) = some (PySem.HandSPX.excO C hp.objs.size) := by heap_get
  have I2 := I1.laid (t' := tk) (a := hp.objs.size + 1) (o := exo (hp.objs.size + 1) C none) (h' := (hp.push (PySem.W.kdv_tup us)).push (PySem.HandSPX.excO C hp.objs.size)) old (Nat.le_succ _) (exo_ok new)
  have r2 : Vals (V.ref (hp.objs.size + 1) :: vs) (Value.ref (hp.objs.size + 1) :: us) := .cons rfl r1
  have hl : (Value.ref (hp.objs.size + 1) :: us ++ []).length = (["self", "at"] : List Str).length := by
    rw [List.append_nil, ← r2.length]
    exact F1.len _ _ _ _ hq
  have b2 := hb _ (Value.ref (hp.objs.size + 1) :: us) I2.kIn hl
  rw [List.append_nil] at b2
  have hus : us.length ≤ sizeLine := by
    rw [← Paired.length r1, sizeLine_eq]
    omega
  refine wpAny_call (PySem.HandSPX.call_own F.excBase_ValueError (fun Y => PySem.HandSPX.refsVE_contains Y bm hbm) (I1.kIn _ _ hC) (PySem.W.looks_findIn I1.kIn t.iC) (fun self => PySem.W.bind_fn I1.kIn self t.tI) hus
    (codeAny_mono (F1.run _ X.stack _ _ ⟨Value.ref (hp.objs.size + 1) :: us, []⟩ _ _ _ E0 (hr.make C us []) (I2.env0.make C us []) b2 r2 hq) fun r s' hq' => ?_))
  cases r with
  | error er => exact hq'.elim
  | ok fl =>
    cases fl with
    | ret u =>
      obtain ⟨v, H2, os2, bare2, un2, hok2, rv, ev, d, fs, ea, ed, hd1, q2⟩ := hq'
      subst ev
      obtain ⟨h2, g2, d2, t2, os'⟩ := s'
      obtain ⟨t0, G, J, kG, ge, hoe, na⟩ := mk_end0 (d2 := d2) (t2 := t2) I1 (Nat.le_succ _) old un2 hok2 os2 bare2 ea ed hd1
      refine ⟨rv, hp.objs.size + 1, _, _, ⟨G, g2, d2, t2, os'⟩, _, .ref C, some d, rfl, J, kG, ge, hoe, ⟨rfl, rfl, fun vs hv => ?_⟩, rfl, rfl, na, rfl, bare2, raises_own T.exC T.tyC, q2⟩
      cases hv
      rfl
    | next => exact False.elim hq'
    | brk => exact False.elim hq'
    | cont => exact False.elim hq'
end
/-! ### defs that let TooMany out, its context None -/
section
variable {P : Program} {w : World} {K : PySem.W.Frag} {mg : Str → Option Value} {base : Heap}
theorem okN {x qual : Str} {st : Stmt} {f : Addr} {fd : FuncData} {N ps : List Str} {k : Nat} {sp : Sp} (F : Fun K x qual st f fd) (S : FnScope N ps (defScope st)) (len : ∀ vs H Q E, sp vs H Q E → vs.length = ps.length)
    (hbody : ∀ (cdv : Value) (A : Around) (outer : List Env) (s : Shared) (H : Hp) (vs : List V) (Q : VK) (E : XK), Room k (A.deeper (envOfC qual (defScope st) s.heap.objs.size f cdv)) → sp vs H Q E →
      ∃ t, PSs (cxOf (L2N.CX P w) P w K mg base N qual (defScope st) f cdv A outer s H E) (defBody st) t ∧ t { nx := fun _ H' => Q .non H', rt := Q } (L2.start N vs) H) : FnOk P w K mg base (L2N.CX P w) (k + 1) f fd ps sp := by
  obtain ⟨oc, od, kV, doc, pm, an, cdv, ct, osl, rfl, lk, hcd⟩ := F.ex
  exact fn_of lk hcd S len fun A outer s H vs Q E hr hsp => hbody cdv A outer s H vs Q E hr hsp
end
/-- what is wanted of TooMany, told with this number, the heap grown alone -/
def Tm (E : XK) (C : Addr) (H : Hp) (at_ : Int) : Prop := ∀ H' d, Same H H' → H' d = some (.xd [("at", .int at_)]) → E (.ref C) (some d) H'
theorem Tm.imp {E : XK} {C : Addr} {H H' : Hp} {n : Int} (h : Tm E C H n) (s : Same H H') : Tm E C H' n := fun H2 d s2 e => h H2 d (s.trans s2) e
end Cw
set_option Elab.async false
set_option linter.all false
set_option maxRecDepth 100000
set_option maxHeartbeats 4000000
/-! no_of, check_letters, machine_of_rooms -/
namespace Cw
open PySem PySem.Spec PyProof.Rows L2 Kw NdefX
section
variable {P : Program} {w : World} {K : PySem.W.Frag} {mg : Str → Option Value} {base : Heap}
def spNo : Sp := fun vs H Q _ => ∃ (x : V) (ls : Str) (m : Mc) (k : Nat), vs = [x] ∧ McAt H x ls m ∧ m.Valid k ∧ k ≤ 100 ∧ m.mv.length ≤ 1000 ∧ ∀ H' v, Same H H' → McAt H' v ls ⟨m.least.mv, m.least.ys.map (!·)⟩ → Q v H'
theorem ok_no {f fL : Addr} {fd fdL : FuncData} (F : Fun K "no_of" "no_of" sNoOf f fd) (GL : FnOk P w K mg base CX0 3 fL fdL ["machine"] (spLeast K)) (kL : PySem.W.keepIn K (.ref fL) = true) (bL : Binds K fdL ["machine"] []) (gL : mg "least" = some (.ref fL)) (mtup : mg "tuple" = none) :
    FnOk P w K mg base CX0 4 f fd ["machine"] spNo := by
  refine F.ok scNoOf (fun vs H Q E h => ?_) (fun cdv A outer s H vs Q E hr h => ?_)
  · obtain ⟨x, ls, m, k, rfl, _⟩ := h
    rfl
  · obtain ⟨x, ls, m, k, rfl, hx, hv, hk, hz, q⟩ := h
    have nd := scNoOf.nd
    refine ⟨_, pss_cons (ps_asg (pe_call GL hr (by rfl) gL kL bL .nil pass0 (pa_cons (pv 0) pa_nil)) (pg_tup (by rfl) (pgs_cons (pg_name (i := 1) nd rfl (.inl rfl)) (pgs_cons (pg_name (i := 2) nd rfl (.inl rfl)) (pgs_cons (pg_name (i := 3) nd rfl (.inl rfl)) pgs_nil)))))
      (pss_one (ps_ret (pe_tup (pa_cons (pv 1) (pa_cons (pv 2) (pa_cons (pe_callTy (tupOf K) (by rfl) mtup bTuple (pa_cons
        (pe_lc (own := [("one", 4)]) (g := gName 4) (tt := tYes) rfl nd (piT K (pv 3)) (blkOk_by (own := [("one", 4)]) (N := nNoOf) (sc := defScope sNoOf) (by decide +kernel)) (fun _ _ _ _ _ => pg_name (i := 4) nd rfl (Or.inl rfl)) (fun _ _ _ _ _ => pts_nil)
          (fun _ _ _ _ _ => pe_not (pv 4))) pa_nil)) pa_nil)))))), ?_⟩
    refine ⟨x, rfl, x, ls, m, k, rfl, hx, hv, hk, hz, fun H1 v st1 hv1 => ?_⟩
    obtain ⟨p, a, b, rfl, hp, ha, pb, rfl, hb⟩ := hv1
    refine ⟨p, _, rfl, SqT.of hp, rfl, _, _, rfl, _, _, rfl, _, _, rfl, rfl, ?_⟩
    have few : m.least.ys.length ≤ 1000 := by
      have c := Mc.least_canon hv
      rw [c.len]
      exact Nat.le_trans (least_le hv) hz
    refine ⟨.str ls, rfl, a, rfl, .ref pb, rfl, pb, rfl, ⟨_, SqT.of hb⟩, fun D hD => ?_⟩
    refine lc_of_tup (xs := m.least.ys.map V.bl) (fun j v _ => ∀ t, m.least.ys[j]? = some t → v = .bl (!t)) (fun i v _ _ h _ => h) hD (fun H7 st7 => SqT.of (st7 _ _ hb)) (by rw [List.length_map]; exact small' (by omega)) (fun j v hj => ?_) (fun H7 ys st7 hD7l hyl7 hys7 => ?_)
    · intro H7 R' S' st7 hR'
      rw [List.getElem?_map] at hj
      obtain ⟨t, ht, rfl⟩ := Option.map_eq_some_iff.mp hj
      refine ⟨rfl, ?_⟩
      refine ⟨.bl t, rfl, t, rfl, hR' _ _ (Same.refl _) fun t' e => ?_⟩
      rw [ht] at e
      cases e
      rfl
    · have eys : ys = (m.least.ys.map (!·)).map V.bl := by
        rw [List.map_map]
        exact all_map (f := fun t => V.bl (!t)) (by rw [hyl7, List.length_map]) hys7
      rw [eys] at hD7l
      refine ⟨D, _, rfl, .inl ⟨SqL.of hD7l, fun t7 nt7 => ?_⟩⟩
      refine ⟨by show 3 ≤ sizeLine; decide, fun p9 np9 => ?_⟩
      have ne9 : t7 ≠ p9 := fun e => by
        rw [← e, upd_same] at np9
        cases np9
      have st9 : Same H1 (upd (upd H7 t7 (.tup ((m.least.ys.map (!·)).map V.bl))) p9 (.tup [.str ls, a, .ref t7])) := st7.trans ((Same.new nt7).trans (Same.new np9))
      exact q _ _ (st1.trans st9) ⟨p9, _, _, rfl, upd_same, ha.tst st9.tst, ⟨t7, rfl, by rw [upd_ne ne9, upd_same]⟩⟩
def spCheck : Sp := fun vs H Q _ => ∃ (x y : V) (ls : Str) (m n : Mc), vs = [x, y] ∧ McAt H x ls m ∧ McAt H y ls n ∧ Q .non H
theorem ok_check {f : Addr} {fd : FuncData} (F : Fun K "check_letters" "check_letters" sCheck f fd) : FnOk P w K mg base CX0 1 f fd ["one", "other"] spCheck := by
  refine F.ok scCheck (fun vs H Q E h => ?_) (fun cdv A outer s H vs Q E hr h => ?_)
  · obtain ⟨x, y, ls, m, n, rfl, _⟩ := h
    rfl
  · obtain ⟨x, y, ls, m, n, rfl, hx, hy, q⟩ := h
    obtain ⟨p, a, b, rfl, hp, _⟩ := hx
    obtain ⟨p', a', b', rfl, hp', _⟩ := hy
    refine ⟨_, pss_one (ps_if (pt_cmpR op_ne (pe_ix ix_tup (pv 0) pe_int (fun _ _ => rfl)) (pe_ix ix_tup (pv 1) pe_int (fun _ _ => rfl)) (nomark _)) (pss_one ps_never) pss_nil), ?_⟩
    refine ⟨.ref p, rfl, p, _, _, _, rfl, rfl, SqT.of hp, (atI_nat (j := 0) rfl), .ref p', rfl, p', _, _, _, rfl, rfl, SqT.of hp', (atI_nat (j := 0) rfl), rfl, _, rfl, ?_⟩
    exact iteN (by simp) q
theorem tm_same {H : Hp} {a d : Addr} {u1 u2 u3 u4 : HO} (na : H a = none) (nd : H d = none) : Same H (upd (del (upd (upd (upd H a u1) d u2) a u3) a) d u4) := fun b o e => by
  have h1 : b ≠ a := ne_of_none e na
  have h2 : b ≠ d := ne_of_none e nd
  rw [upd_ne h2]
  unfold del
  rw [if_neg h1, upd_ne h1, upd_ne h2, upd_ne h1]
  exact e
/-- TooMany(n) raised: what is asked -/
theorem tm_out {C : Addr} {E : XK} {H : Hp} {n : Int} (h : Tm E C H n) : tMkO C (spTm C) [] (fun _ H Q => Q [.int n] H) [] H fun cls d H' => E cls d H' := by
  refine ⟨by show 1 ≤ 1000; decide, fun a na => ⟨a, .int n, rfl, upd_same, fun dx nd ne => ⟨rfl, dx, _, upd_same, by rw [upd_ne ne, upd_same], ?_, ?_⟩⟩⟩
  · rw [upd_ne ne] at nd
    exact nd
  · rw [upd_ne ne] at nd
    exact h _ dx (tm_same na nd) upd_same
def spMRooms (C : Addr) : Sp := fun vs H Q E => ∃ (ls : Str) (g : V), vs = [.str ls, g] ∧
  ((g = .non ∧ Tm E C H 0) ∨ ∃ p x y m k, g = .ref p ∧ H p = some (.tup [x, y]) ∧ MvAt H x m.mv ∧ BlsAt H y m.ys ∧ Mc.Valid m k ∧ k ≤ 100 ∧ m.mv.length ≤ 1000 ∧ ∀ H' v, Same H H' → McAt H' v ls m.least → Q v H')
theorem ok_mrooms {B C fI : Addr} {fdI : FuncData} {f fL : Addr} {fd fdL : FuncData} (F : Fun K "machine_of_rooms" "machine_of_rooms" sMRooms f fd) (t : TmTxt K mg B C fI) (GI : FnOk P w K mg base CX0 1 fI fdI ["self", "at"] (spTm C)) (bI : Binds K fdI ["self", "at"] [])
    (GL : FnOk P w K mg base CX0 2 fL fdL ["moves", "yes"] (spLeastOf K)) (kL : PySem.W.keepIn K (.ref fL) = true) (bL : Binds K fdL ["moves", "yes"] []) (gL : mg "least_of" = some (.ref fL)) :
    FnOk P w K mg base (L2N.CX P w) 3 f fd ["letters", "grown"] (spMRooms C) := by
  refine okN F scMRooms (fun vs H Q E h => ?_) (fun cdv A outer s H vs Q E hr h => ?_)
  · obtain ⟨ls, g, rfl, _⟩ := h
    rfl
  · obtain ⟨ls, g, rfl, h⟩ := h
    have nd := scMRooms.nd
    refine ⟨_, pss_cons (ps_if (pt_cmp (pc_isN (pv 1))) (pss_one (L2N.ps_raise rfl (L2N.takes_of rfl rfl rfl rfl) (pmk_tm t GI hr bI (by rfl) (pa_cons pe_int pa_nil)))) pss_nil)
      (pss_cons (ps_asg (pe_call GL hr (by rfl) gL kL bL .nil pass0 (pa_cons (pe_ix ix_tup (pv 1) pe_int (fun _ _ => rfl)) (pa_cons (pe_ix ix_tup (pv 1) pe_int (fun _ _ => rfl)) pa_nil))) (pg_tup (by rfl) (pgs_cons (pg_name (i := 2) nd rfl (.inl rfl)) (pgs_cons (pg_name (i := 3) nd rfl (.inl rfl)) pgs_nil))))
      (pss_one (ps_ret (pe_tup (pa_cons (pv 0) (pa_cons (pv 2) (pa_cons (pv 3) pa_nil))))))), ?_⟩
    rcases h with ⟨rfl, hE⟩ | ⟨p, x, y, m, k, rfl, hp, hx, hy, hv, hk, hz, q⟩
    · refine ⟨.non, rfl, _, rfl, iteP (decide_eq_true rfl) ?_⟩
      exact tm_out hE
    · refine ⟨.ref p, rfl, _, rfl, iteN (decide_eq_false (by simp)) ?_⟩
      refine ⟨.ref p, rfl, p, _, _, _, rfl, rfl, SqT.of hp, (atI_nat (j := 0) rfl), .ref p, rfl, p, _, _, _, rfl, rfl, SqT.of hp, (atI_nat (j := 1) rfl), ?_⟩
      refine ⟨x, y, m, k, rfl, hx, hy, hv, hk, hz, fun H' p' a' b' st hp' ha' hb' => ?_⟩
      refine ⟨p', _, rfl, SqT.of hp', rfl, _, _, rfl, _, _, rfl, rfl, ?_⟩
      refine ⟨_, rfl, _, rfl, _, rfl, by show 3 ≤ sizeLine; decide, fun t nt => ?_⟩
      exact q _ _ (st.trans (Same.new nt)) ⟨t, a', b', rfl, upd_same, ha'.tst (Tst.new nt), hb'.tst (Tst.new nt)⟩
end
end Cw
set_option Elab.async false
set_option linter.all false
set_option maxRecDepth 100000
set_option maxHeartbeats 4000000
/-! Functions made in a def, handed on: their cells, held; the defs that make them. -/
namespace Cw
open PySem PySem.Spec PyProof.Rows L2 Kw NdefX LamX
section
variable {ob : Addr → Option Obj} {H H' : Hp}
theorem hold_same (f : ∀ b o, ob b = some o → H b = none) : Same H (hold ob H) := fun b o e => by
  rw [hold_out (ob_none fun o' z => by rw [f b o' z] at e; cases e)]
  exact e
theorem loose_tst (f : ∀ b o, ob b = some o → H b = some (.frz o (.own b))) : Tst H (loose ob H) := fun b xs e => by
  rw [loose_out (ob_none fun o' z => by rw [f b o' z] at e; cases e)]
  exact e
theorem hold_tst (f : ∀ b o, ob b = some o → H b = none) : Tst H (hold ob H) := (hold_same f).tst
/-- what was told before the cells were held is told when they are let go -/
theorem loose_same (f : ∀ b o, ob b = some o → H b = none) (s : Same (hold ob H) H') : Same H (loose ob H') := fun b o e => by
  have q : ob b = none := ob_none fun o' z => by rw [f b o' z] at e; cases e
  rw [loose_out q]
  exact s _ _ (by rw [hold_out q]; exact e)
/-- .. the other way: let go, called, held again -/
theorem hold_back (f : ∀ b o, ob b = some o → H b = some (.frz o (.own b))) (s : Same (loose ob H) H') : Same H (hold ob H') := fun b x e => by
  cases q : ob b with
  | some o =>
    rw [f b o q] at e
    cases e
    exact hold_in q
  | none =>
    rw [hold_out q]
    exact s _ _ (by rw [loose_out q]; exact e)
end
section
variable {P : Program} {w : World} {K : PySem.W.Frag} {mg : Str → Option Value} {base : Heap} {k : Nat} {f : Addr} {F : NF} {ps fr : List Str} {sp : List (Option V) → Sp} {ob : Addr → Option Obj} {H : Hp} {ws : List (Option V)}
/-- clo_of, its code object known -/
theorem clo_ofC (Fn : NOk P w K mg base CX0 k f F ps fr sp) (hf : H f = some (FnO f F)) (hco : H F.c = some (CodeO F.c F.qual)) (hc : HeldAt ob H F.cl fr ws) :
    Clo P w K mg base k H f fun vs H Q => sp ws vs (loose ob H) (fun v H' => (∀ b o, ob b = some o → H' b = none) → Q v (hold ob H')) E0 := by
  refine ⟨⟨F, hf⟩, fun A outer s us vs Q hr e0 r q => ?_⟩
  have hfo : ob f = none := ob_none fun o z => by
    have e := hc.held f o z
    rw [hf] at e
    cases e
  have hcoo : ob F.c = none := ob_none fun o z => by
    have e := hc.held F.c o z
    rw [hco] at e
    cases e
  have there : ∀ b o, ob b = some o → s.heap.get? b = some o := fun b o e => by
    have e1 : ObjOk P w H s.heap b (.frz o (.own b)) := e0.hok b _ (hc.held b o e)
    exact e1.1
  have e1 : Env0 P w K mg base A outer s (loose ob H) := ⟨e0.frames, e0.mod, fun b o e => ⟨(e0.bs b o e).1, by
    cases q2 : ob b with
    | some o' => exact loose_in q2
    | none => rw [loose_out q2]; exact (e0.bs b o e).2⟩, e0.bsz, e0.funs, fun b hb => by
    cases q2 : ob b with
    | some o' => exact loose_in q2
    | none => rw [loose_out q2]; exact e0.frf b hb, loose_ok e0.hok hc.held, e0.bare⟩
  have C : CellsAt F.cl fr ws s.heap (loose ob H) := ⟨hc.len, fun y c e => by
    obtain ⟨o, v, h1, h2⟩ := hc.cov y c e
    exact ⟨loose_in h1, v, o, there c o h1, h2⟩, hc.inj, fun i y e => by
    obtain ⟨c, h1, h2⟩ := hc.val i y e
    refine ⟨c, h1, fun v ev => ?_⟩
    obtain ⟨o, u, h3, h4, h5⟩ := h2 v ev
    exact ⟨u, h5, o, there c o h3, h4⟩⟩
  refine codeAny_mono (Fn.run A outer s (loose ob H) us vs ws _ E0 hr e1 (by rw [loose_out hfo]; exact hf) (by rw [loose_out hcoo]; exact hco) C r q) fun r s' hq => ?_
  cases r with
  | error e => exact hq
  | ok fl =>
    cases fl with
    | ret u => exact ce_loose e0.hok e0.frf hc.held hq
    | next => exact hq
    | brk => exact hq
    | cont => exact hq
/-- a def whose code object is known -/
theorem okNC {CX : CXT} {x qual : Str} {st : Stmt} {f c : Addr} {fd : FuncData} {N ps : List Str} {k : Nat} {sp : Sp} (F : Fun K x qual st f fd) (hc : fd.code = .ref c) (S : FnScope N ps (defScope st)) (len : ∀ vs H Q E, sp vs H Q E → vs.length = ps.length)
    (hbody : ∀ (A : Around) (outer : List Env) (s : Shared) (H : Hp) (vs : List V) (Q : VK) (E : XK), Room k (A.deeper (envOfC qual (defScope st) s.heap.objs.size f (.ref c))) → sp vs H Q E →
      ∃ t, PSs (cxOf CX P w K mg base N qual (defScope st) f (.ref c) A outer s H E) (defBody st) t ∧ t { nx := fun _ H' => Q .non H', rt := Q } (L2.start N vs) H) : FnOk P w K mg base CX (k + 1) f fd ps sp := by
  obtain ⟨oc, od, kV, doc, pm, an, cdv, ct, osl, rfl, lk, hcd⟩ := F.ex
  obtain rfl : cdv = .ref c := hc
  exact fn_of lk hcd S len fun A outer s H vs Q E hr hsp => hbody A outer s H vs Q E hr hsp
theorem okDC {CX : CXT} {x qual : Str} {params : Arguments} {body : List Stmt} {scope : Scope} {dvs : List V} {kws : List (Str × V)} {f c : Addr} {fd : FuncData} {N ps : List Str} {k : Nat} {sp : Sp} (F : FunD K x qual params body scope dvs kws f fd) (hc : fd.code = .ref c) (S : FnScope N ps scope) (len : ∀ vs H Q E, sp vs H Q E → vs.length = ps.length)
    (hbody : ∀ (A : Around) (outer : List Env) (s : Shared) (H : Hp) (vs : List V) (Q : VK) (E : XK), Room k (A.deeper (envOfC qual scope s.heap.objs.size f (.ref c))) → sp vs H Q E →
      ∃ t, PSs (cxOf CX P w K mg base N qual scope f (.ref c) A outer s H E) body t ∧ t { nx := fun _ H' => Q .non H', rt := Q } (L2.start N vs) H) : FnOk P w K mg base CX (k + 1) f fd ps sp := by
  obtain ⟨oc, od, dV, kV, doc, pm, an, cdv, ct, osl, rfl, lk, hcd, _, _⟩ := F.ex
  obtain rfl : cdv = .ref c := hc
  exact fn_of lk hcd S len fun A outer s H vs Q E hr hsp => hbody A outer s H vs Q E hr hsp
end
/-- a function of the captured values, handed on; R: what it answers -/
theorem clo_use {P : Program} {w : World} {K : PySem.W.Frag} {mg : Str → Option Value} {base : Heap} {k : Nat} {f : Addr} {F : NF} {ps fr : List Str} {sp : List (Option V) → Sp} {ob : Addr → Option Obj} {H : Hp} {ws : List (Option V)}
    (Fn : NOk P w K mg base CX0 k f F ps fr sp) (hf : H f = some (FnO f F)) (hco : H F.c = some (CodeO F.c F.qual)) (hc : HeldAt ob H F.cl fr ws) (H' : Hp) (st : Same H H') : ∃ S, Clo P w K mg base k H' f S ∧ ∀ (vs : List V) (R : VK) (Q : VK), (∀ v H3 H4, Tst H3 H4 → R v H3 → R v H4) →
      (∀ H2 Q', Tst H' H2 → (∀ v H3, Same H2 H3 → R v H3 → Q' v H3) → sp ws vs H2 Q' E0) → (∀ v H4, Same H' H4 → R v H4 → Q v H4) → S vs H' Q := by
  refine ⟨_, clo_ofC Fn (st _ _ hf) (st _ _ hco) (hc.same st), fun vs R Q hR h q => ?_⟩
  have held := (hc.same st).held
  refine h _ _ (loose_tst held) fun v H3 s3 r3 n3 => ?_
  exact q v _ (hold_back held s3) (hR v _ _ (hold_tst n3) r3)
/-- TooMany told, the tables grown alone -/
def TmT (E : XK) (C : Addr) (T : List NTab) (H : Hp) (at_ : Int) : Prop := ∀ H' d, ExtN H H' → TabsN T H' → H' d = some (.xd [("at", .int at_)]) → E (.ref C) (some d) H'
theorem extN_same {H H' : Hp} (s : Same H H') : ExtN H H' := ExtN.of s
theorem extN_tst {H H' : Hp} (e : ExtN H H') : Tst H H' := fun b xs q => e b _ q fun ps z => by cases z
end Cw
set_option Elab.async false
set_option linter.all false
set_option maxRecDepth 100000
set_option maxHeartbeats 4000000
/-! paired, both_of, either_of -/
namespace Cw
open PySem PySem.Spec PyProof.Rows L2 Kw NdefX LamX
abbrev sPOn : Stmt := (defBody sPaired).getD 3 (.Pass ⟨0, 0, 0, 0⟩)
abbrev sPYes : Stmt := (defBody sPaired).getD 4 (.Pass ⟨0, 0, 0, 0⟩)
def stmtPos : Stmt → Pos
  | .FunctionDef _ _ _ _ _ _ _ _ _ p => p
  | _ => ⟨0, 0, 0, 0⟩
abbrev nPOn : List Str := ["room", "k", "moves", "other_moves"]
abbrev nPYes : List Str := ["room", "is_either", "yes", "other_yes"]
theorem scPOn : NScope nPOn ["room", "k"] ["moves", "other_moves"] (C8.fnScope sPOn) := nscope_by (by decide +kernel)
theorem scPYes : NScope nPYes ["room"] ["is_either", "yes", "other_yes"] (C8.fnScope sPYes) := nscope_by (by decide +kernel)
/-- the names of paired's own functions, by the line on which they stand -/
def nmP (l _ : Nat) : Str := if l = (stmtPos sPOn).line then (("paired.<locals>." : Str) ++ "onward") else (("paired.<locals>." : Str) ++ "is_yes")
section
variable {P : Program} {w : World} {K : PySem.W.Frag} {mg : Str → Option Value} {base : Heap}
def spPOn : List (Option V) → Sp := fun ws vs H Q _ => ∃ (x y v : V) (m n : Mc) (k r s a : Nat), ws = [some x, some y] ∧ vs = [v, iv a] ∧ MvAt H x m.mv ∧ MvAt H y n.mv ∧ m.Valid k ∧ n.Valid k ∧ RmAt H v (.two r s) ∧ r < m.mv.length ∧ s < n.mv.length ∧ a < k ∧
  ∀ H' u, Same H H' → RmAt H' u (.two (m.to r a) (n.to s a)) → Q u H'
theorem to_get {m : Mc} {k r a : Nat} (hv : m.Valid k) (hr : r < m.mv.length) (ha : a < k) : (m.succ r)[a]? = some (m.to r a) := by
  have hl := Mc.succ_len hv hr
  unfold Mc.to
  rw [List.getD_eq_getElem?_getD, List.getElem?_eq_getElem (by omega)]
  rfl
theorem ok_pon {f c' : Addr} {q : Str} {cl : List (Str × Addr)} : NOk P w K mg base CX0 1 f (NF.of sPOn "onward" q cl c') ["room", "k"] ["moves", "other_moves"] spPOn := by
  refine nok_of scPOn (fun doc pm ctv us hl => match us, hl with | [_, _], _ => rfl) (fun ws vs H Q E h => ?_) (fun A outer s H vs ws Q E hr hf hco hl h => ?_)
  · obtain ⟨x, y, v, m, n, k, r, s, a, _, rfl, _⟩ := h
    rfl
  · obtain ⟨x, y, v, m, n, k, r, s, a, rfl, rfl, hx, hy, hv, hn, ⟨p, rfl, hp⟩, hr1, hs1, ha, q⟩ := h
    refine ⟨_, pss_one (ps_ret (pe_tup (pa_cons (pe_ix ix_tup (pe_ix ix_tup (pv 2) (pe_ix ix_tup (pv 0) pe_int (fun _ _ => rfl)) (fun _ _ => rfl)) (pv 1) (fun _ _ => rfl))
      (pa_cons (pe_ix ix_tup (pe_ix ix_tup (pv 3) (pe_ix ix_tup (pv 0) pe_int (fun _ _ => rfl)) (fun _ _ => rfl)) (pv 1) (fun _ _ => rfl)) pa_nil)))), ?_⟩
    obtain ⟨px, vs, rfl, hpx, hvl, hrow⟩ := hx.row
    obtain ⟨py, vs', rfl, hpy, hvl', hrow'⟩ := hy.row
    obtain ⟨q1, e1, h1⟩ := hrow r _ (mv_get hr1)
    obtain ⟨q2, e2, h2⟩ := hrow' s _ (mv_get hs1)
    refine ⟨.ref px, rfl, .ref p, rfl, p, _, _, _, rfl, rfl, SqT.of hp, (atI_nat (j := 0) rfl), px, _, _, _, rfl, rfl, SqT.of hpx, atI_nat e1, iv a, rfl, q1, _, _, _, rfl, rfl, SqT.of h1, atI_nat (iv_get (to_get hv hr1 ha)), ?_⟩
    refine ⟨.ref py, rfl, .ref p, rfl, p, _, _, _, rfl, rfl, SqT.of hp, (atI_nat (j := 1) rfl), py, _, _, _, rfl, rfl, SqT.of hpy, atI_nat e2, iv a, rfl, q2, _, _, _, rfl, rfl, SqT.of h2, atI_nat (iv_get (to_get hn hs1 ha)), ?_⟩
    exact ⟨by show 2 ≤ sizeLine; decide, fun t nt => q _ _ (Same.new nt) ⟨t, rfl, upd_same⟩⟩
def spPYes : List (Option V) → Sp := fun ws vs H Q _ => ∃ (x y v : V) (e : Bool) (m n : Mc) (k r s : Nat), ws = [some (.bl e), some x, some y] ∧ vs = [v] ∧ BlsAt H x m.ys ∧ BlsAt H y n.ys ∧ m.Valid k ∧ n.Valid k ∧ RmAt H v (.two r s) ∧ r < m.mv.length ∧ s < n.mv.length ∧
  Q (.bl (if e then m.y r || n.y s else m.y r && n.y s)) H
theorem ok_pyes {f c' : Addr} {q : Str} {cl : List (Str × Addr)} : NOk P w K mg base CX0 1 f (NF.of sPYes "is_yes" q cl c') ["room"] ["is_either", "yes", "other_yes"] spPYes := by
  refine nok_of scPYes (fun doc pm ctv us hl => match us, hl with | [_], _ => rfl) (fun ws vs H Q E h => ?_) (fun A outer s H vs ws Q E hr hf hco hl h => ?_)
  · obtain ⟨x, y, v, e, m, n, k, r, s, _, rfl, _⟩ := h
    rfl
  · obtain ⟨x, y, v, e, m, n, k, r, s, rfl, rfl, ⟨px, rfl, hx⟩, ⟨py, rfl, hy⟩, hv, hn, ⟨p, rfl, hp⟩, hr1, hs1, q⟩ := h
    refine ⟨_, pss_cons (ps_if (pt_val (pv 1)) (pss_one (ps_ret (pe_or (pe_ix ix_tup (pv 2) (pe_ix ix_tup (pv 0) pe_int (fun _ _ => rfl)) (fun _ _ => rfl)) (pe_one (pe_ix ix_tup (pv 3) (pe_ix ix_tup (pv 0) pe_int (fun _ _ => rfl)) (fun _ _ => rfl)))))) pss_nil)
      (pss_one (ps_ret (pe_and (pe_ix ix_tup (pv 2) (pe_ix ix_tup (pv 0) pe_int (fun _ _ => rfl)) (fun _ _ => rfl)) (pe_one (pe_ix ix_tup (pv 3) (pe_ix ix_tup (pv 0) pe_int (fun _ _ => rfl)) (fun _ _ => rfl)))))), ?_⟩
    refine ⟨.bl e, rfl, e, rfl, ?_⟩
    cases e with
    | true =>
      refine iteT ?_
      refine ⟨.ref px, rfl, .ref p, rfl, p, _, _, _, rfl, rfl, SqT.of hp, (atI_nat (j := 0) rfl), px, _, _, _, rfl, rfl, SqT.of hx, atI_nat (bl_get (ys_get hv hr1)), _, rfl, ?_⟩
      refine iteB (fun e => ?_) (fun e => ?_)
      · rw [e] at q
        exact q
      · rw [e] at q
        exact ⟨.ref py, rfl, .ref p, rfl, p, _, _, _, rfl, rfl, SqT.of hp, (atI_nat (j := 1) rfl), py, _, _, _, rfl, rfl, SqT.of hy, atI_nat (bl_get (ys_get hn hs1)), q⟩
    | false =>
      refine iteF ?_
      refine ⟨.ref px, rfl, .ref p, rfl, p, _, _, _, rfl, rfl, SqT.of hp, (atI_nat (j := 0) rfl), px, _, _, _, rfl, rfl, SqT.of hx, atI_nat (bl_get (ys_get hv hr1)), _, rfl, ?_⟩
      refine iteB (fun e => ?_) (fun e => ?_)
      · rw [e] at q
        exact ⟨.ref py, rfl, .ref p, rfl, p, _, _, _, rfl, rfl, SqT.of hp, (atI_nat (j := 1) rfl), py, _, _, _, rfl, rfl, SqT.of hy, atI_nat (bl_get (ys_get hn hs1)), q⟩
      · rw [e] at q
        exact q
def spPaired (C : Addr) (T : List NTab) : Sp := fun vs H Q E => ∃ (x y : V) (ls : Str) (m n : Mc) (most : Nat) (e : Bool) (g : Gr Rm), vs = [x, y, iv most, .bl e] ∧ McAt H x ls m ∧ McAt H y ls n ∧ m.Canon ls.length ∧ n.Canon ls.length ∧ ls.length ≤ 100 ∧ m.mv.length ≤ 1000 ∧ n.mv.length ≤ 1000 ∧ most ≤ 1000 ∧ TabsN T H ∧
  g.first = .two 0 0 ∧ (∀ r s a, g.onw (.two r s) a = .two (m.to r a) (n.to s a)) ∧ (∀ r s, g.isY (.two r s) = if e then m.y r || n.y s else m.y r && n.y s) ∧
  (most < (g.rooms ls.length most).length → TmT E C T H 0) ∧ ((g.rooms ls.length most).length ≤ most → ∀ H' v, ExtN H H' → TabsN T H' → McAt H' v ls (g.mc ls.length (g.rooms ls.length most)).least → Q v H')
theorem ok_paired {C c P1 f fC fL fG fM : Addr} {fd fdC fdL fdG fdM : FuncData} {T : List NTab} (F : Fun K "paired" "paired" sPaired f fd) (hc : fd.code = .ref c) (TB : TabB base mg c P1) (hm : (P1, nmP) ∈ T) (hu : ∀ p ∈ T, p.1 = P1 → p.2 = nmP)
    (GC : FnOk P w K mg base CX0 1 fC fdC ["one", "other"] spCheck) (kC : PySem.W.keepIn K (.ref fC) = true) (bC : Binds K fdC ["one", "other"] []) (gC : mg "check_letters" = some (.ref fC))
    (GL : FnOk P w K mg base CX0 3 fL fdL ["machine"] (spLeast K)) (kL : PySem.W.keepIn K (.ref fL) = true) (bL : Binds K fdL ["machine"] []) (gL : mg "least" = some (.ref fL))
    (GG : FnOk P w K mg base CX0 2 fG fdG ["first", "many", "onward", "is_yes", "most"] (spGrown P w K mg base 1)) (kG : PySem.W.keepIn K (.ref fG) = true) (bG : Binds K fdG ["first", "many", "onward", "is_yes", "most"] []) (gG : mg "grown_from" = some (.ref fG))
    (GM : FnOk P w K mg base (L2N.CX P w) 3 fM fdM ["letters", "grown"] (spMRooms C)) (kM : PySem.W.keepIn K (.ref fM) = true) (bM : Binds K fdM ["letters", "grown"] []) (gM : mg "machine_of_rooms" = some (.ref fM)) (mlen : mg "len" = none) :
    FnOk P w K mg base (L2N.CX P w) 4 f fd ["one", "other", "most", "is_either"] (spPaired C T) := by
  refine okNC F hc scPaired (fun vs H Q E h => ?_) (fun A outer s H vs Q E hr h => ?_)
  · obtain ⟨x, y, ls, m, n, most, e, g, rfl, _⟩ := h
    rfl
  · obtain ⟨x, y, ls, m, n, most, e, g, rfl, hx, hy, cm, cn, hk, hz, hz', hmo, hT, g0, g1, g2, qE, qT⟩ := h
    have nd := scPaired.nd
    refine ⟨_, pss_cons (ps_expr (pe_call GC (hr.mono (by decide)) (by rfl) gC kC bC .nil pass0 (pa_cons (pv 0) (pa_cons (pv 1) pa_nil))))
      (pss_cons (ps_asg (pe_call GL hr (by rfl) gL kL bL .nil pass0 (pa_cons (pv 0) pa_nil)) (pg_tup (by rfl) (pgs_cons (pg_name (i := 4) nd rfl (.inl rfl)) (pgs_cons (pg_name (i := 8) nd rfl (.inr rfl)) (pgs_cons (pg_name (i := 11) nd rfl (.inr rfl)) pgs_nil)))))
      (pss_cons (ps_asg (pe_call GL hr (by rfl) gL kL bL .nil pass0 (pa_cons (pv 1) pa_nil)) (pg_tup (by rfl) (pgs_cons (pg_name (i := 5) nd rfl (.inl rfl)) (pgs_cons (pg_name (i := 9) nd rfl (.inr rfl)) (pgs_cons (pg_name (i := 10) nd rfl (.inr rfl)) pgs_nil)))))
      (pss_cons (ps_ndefS (st := sPOn) (i := 6) (by rfl) TB rfl hm (by rfl) hu (ndef_free (sc := defScope sPaired) (fr := ["moves", "other_moves"]) (by decide +kernel)) (by rfl) (by rfl) (by rfl) nd rfl (.inl rfl) (.inl rfl))
      (pss_cons (ps_ndefS (st := sPYes) (i := 7) (by rfl) TB rfl hm (by rfl) hu (ndef_free (sc := defScope sPaired) (fr := ["is_either", "yes", "other_yes"]) (by decide +kernel)) (by rfl) (by rfl) (by rfl) nd rfl (.inl rfl) (.inl rfl))
      (pss_one (ps_ret (pe_call GM hr (by rfl) gM kM bM .nil (L2N.passes_call (L2N.takes_of rfl rfl rfl rfl) fun _ _ _ _ z => z) (pa_cons (pv 4) (pa_cons (pe_hold (fun _ => rfl) GG (hr.mono (by decide)) (by rfl) gG kG bG
        (pa_cons (pe_tup (pa_cons pe_int (pa_cons pe_int pa_nil))) (pa_cons (pe_callB call_len (by rfl) mlen PySem.boot_len (pa_cons (pv 4) pa_nil)) (pa_cons (pv 6) (pa_cons (pv 7) (pa_cons (pv 2) pa_nil)))))) pa_nil))))))))), ?_⟩
    refine ⟨x, rfl, y, rfl, x, y, ls, m, n, rfl, hx, hy, ?_⟩
    refine ⟨x, rfl, x, ls, m, ls.length, rfl, hx, cm.toValid, hk, hz, fun H1 v1 st1 hv1 => ?_⟩
    rw [Mc.least_id cm] at hv1
    obtain ⟨p1, a1, b1, rfl, hp1, ha1, hb1⟩ := hv1
    refine ⟨p1, _, rfl, SqT.of hp1, rfl, _, _, rfl, _, _, rfl, _, _, rfl, rfl, ?_⟩
    refine ⟨y, rfl, y, ls, n, ls.length, rfl, hy.tst st1.tst, cn.toValid, hk, hz', fun H2 v2 st2 hv2 => ?_⟩
    rw [Mc.least_id cn] at hv2
    obtain ⟨p2, a2, b2, rfl, hp2, ha2, hb2⟩ := hv2
    refine ⟨p2, _, rfl, SqT.of hp2, rfl, _, _, rfl, _, _, rfl, _, _, rfl, rfl, ?_⟩
    have s02 := st1.trans st2
    have T2 : TabsN T H2 := hT.ext fun b o e => s02 b o e
    refine ⟨T2, fun fo co H3 e3 T3 fo0 fo1 co1 => ?_⟩
    refine ⟨T3, fun fy cy H4 e4 T4 fy0 fy1 cy1 => ?_⟩
    have t04 : ExtN H H4 := (extN_same s02).trans (e3.trans e4)
    have fo4 := e4 _ _ fo1 fun ps => fnO_ne ps
    have co4 := e4 _ _ co1 codeO_ne
    have x24 : Tst H2 H4 := extN_tst (e3.trans e4)
    have ha1' := ha1.tst (st2.tst.trans x24)
    have hb1' := hb1.tst (st2.tst.trans x24)
    have ha2' := ha2.tst x24
    have hb2' := hb2.tst x24
    -- grown_from((0, 0), len(letters), onward, is_yes, most)
    refine ⟨.str ls, rfl, ?_⟩
    refine ⟨by show 2 ≤ sizeLine; decide, fun p5 np5 => ?_⟩
    have ts5 : Tst H4 (upd H4 p5 (.tup [.int 0, .int 0])) := Tst.new np5
    have sm5 : Same H4 (upd H4 p5 (.tup [.int 0, .int 0])) := Same.new np5
    refine ⟨.str ls, rfl, .str ls, ls.length, rfl, ⟨small' (by omega), rfl⟩, .ref fo, rfl, .ref fy, rfl, iv most, rfl, fun ob O => ?_⟩
    obtain ⟨ob1, sub1, held1⟩ := held_made O (scope := C8.fnScope sPOn) (fr := ["moves", "other_moves"]) (js := [8, 9]) (ndef_free (sc := defScope sPaired) (fr := ["moves", "other_moves"]) (by decide +kernel)) (ndef_fr (sc := defScope sPaired) (fr := ["moves", "other_moves"]) (by decide +kernel)) rfl
    obtain ⟨ob2, sub2, held2⟩ := held_made O (scope := C8.fnScope sPYes) (fr := ["is_either", "yes", "other_yes"]) (js := [3, 11, 10]) (ndef_free (sc := defScope sPaired) (fr := ["is_either", "yes", "other_yes"]) (by decide +kernel)) (ndef_fr (sc := defScope sPaired) (fr := ["is_either", "yes", "other_yes"]) (by decide +kernel)) rfl
    have sh := hold_same O.free
    have s5 := sm5.trans sh
    let ok : Rm → Prop := fun r => match r with
      | .two r s => r < m.mv.length ∧ s < n.mv.length
      | _ => False
    refine ⟨.ref p5, ls.length, most, fo, fy, g, ok, false, rfl, ?_, ?_, ?_, ?_, hk, hmo, ?_, ?_, ?_, ?_⟩
    · rw [g0]
      exact ⟨p5, rfl, sh _ _ upd_same⟩
    · rw [g0]
      exact ⟨cm.pos, cn.pos⟩
    · intro r h
      cases r with
      | two r s => rfl
      | one => exact h.elim
      | some => exact h.elim
    · intro r a h ha
      cases r with
      | two r s =>
        rw [g1]
        exact ⟨Mc.to_lt cm.toValid r a, Mc.to_lt cn.toValid s a⟩
      | one => exact h.elim
      | some => exact h.elim
    · intro H' st
      obtain ⟨S, cS, use⟩ := clo_use (ok_pon (P := P) (w := w) (K := K) (mg := mg) (base := base)) (s5 _ _ fo4) (s5 _ _ co4) held1 H' st
      refine ⟨S, cS, fun v r a Q' hv okr ha q => use _ (fun u H => RmAt H u (g.onw r a)) Q' (fun v H3 H4 t h => h.ts t) (fun H2 Q2 t2 imp => ?_) fun u H4 s4 r4 => q H4 u s4 r4⟩
      have tt := (s5.tst.trans st.tst).trans t2
      cases r with
      | two r s => exact ⟨a1, a2, v, m, n, ls.length, r, s, a, rfl, rfl, ha1'.tst tt, ha2'.tst tt, cm.toValid, cn.toValid, hv.ts t2, okr.1, okr.2, ha, fun H3 u s3 r3 => imp u H3 s3 (by rw [g1]; exact r3)⟩
      | one => exact okr.elim
      | some => exact okr.elim
    · intro H' st
      obtain ⟨S, cS, use⟩ := clo_use (ok_pyes (P := P) (w := w) (K := K) (mg := mg) (base := base)) (s5 _ _ fy1) (s5 _ _ cy1) held2 H' st
      refine ⟨S, cS, fun v r Q' hv okr q => use _ (fun u H => u = .bl (g.isY r)) Q' (fun v H3 H4 t h => h) (fun H2 Q2 t2 imp => ?_) fun u H4 s4 r4 => by rw [r4]; exact q H4 s4⟩
      have tt := (s5.tst.trans st.tst).trans t2
      cases r with
      | two r s => exact ⟨b1, b2, v, e, m, n, ls.length, r, s, rfl, rfl, hb1'.tst tt, hb2'.tst tt, cm.toValid, cn.toValid, hv.ts t2, okr.1, okr.2, imp _ _ (Same.refl _) (by rw [g2])⟩
      | one => exact okr.elim
      | some => exact okr.elim
    · intro big H' st held
      have s6 : ExtN H (loose ob H') := t04.trans (extN_same (sm5.trans (loose_same O.free st)))
      have T6 : TabsN T (loose ob H') := T4.ext fun b o e => (sm5.trans (loose_same O.free st)) b o e
      exact ⟨ls, .non, rfl, .inl ⟨rfl, fun H7 d s7 e7 => qE big H7 d (s6.trans (extN_same s7)) (T6.ext fun b o e => s7 b o e) e7⟩⟩
    · intro few H' p a b st hp ha hb held
      have s6 : ExtN H (loose ob H') := t04.trans (extN_same (sm5.trans (loose_same O.free st)))
      have T6 : TabsN T (loose ob H') := T4.ext fun b o e => (sm5.trans (loose_same O.free st)) b o e
      have lt := loose_tst held
      refine ⟨ls, .ref p, rfl, .inr ⟨p, a, b, g.mc ls.length (g.rooms ls.length most), ls.length, rfl, lt _ _ hp, ha.tst lt, hb.tst lt, Gr.mc_valid few, hk, by rw [Gr.mc_len]; omega, fun H7 v s7 e7 => qT few H7 v (s6.trans (extN_same s7)) (T6.ext fun b o e => s7 b o e) e7⟩⟩
end
end Cw
set_option Elab.async false
set_option linter.all false
set_option maxRecDepth 100000
set_option maxHeartbeats 4000000
/-! A nested def of which a parameter is a cell of its own (a comprehension reads it). -/
namespace Cw
open PySem PySem.Spec PyProof.Rows L2 Kw NdefX LamX
section
variable {M : Model} {A : Around} {E : Value → Shared → Prop} {s₀ s : Shared} {m cm : Str → Option Value} {env : Env} {cs : List (Str × Addr)}
theorem own_local (hsub : ∀ n c, cs.lookup n = some c → env.cells.lookup n = some c) {n : Str} {v : Value} {Q : Unit → Shared → Prop} (x : InCallC s₀ env.locals m cs cm s) (hk : env.scope.kind = .function) (hl : env.kindOf n = some .local)
    (h : ∀ s', InCallC s₀ env.locals (fun y => if y = n then some v else m y) cs cm s' → Q () s') : wpAny M A (storeName env n v) Q E s := by
  refine wpAny_storeName_local hl x.toInCall.ns (fun h' hn' hs' => h _ ⟨⟨?_, hn', fun b o e => ?_, x.toInCall.fresh⟩, fun k c hc => ?_, x.apart, x.above⟩) (by rw [hk]; rfl)
  · obtain ⟨h₁, tk, rfl⟩ := x.toInCall.same
    exact ⟨h', _, rfl⟩
  · exact hs'.extBut b o (Nat.ne_of_lt (Nat.lt_of_lt_of_le (Heap.lt_size e) x.toInCall.fresh)) (x.toInCall.keep b o e)
  · exact (x.cell k c hc).sameBut hs' (Nat.ne_of_gt (x.above k c (PySem.mem_of_lookup hc)))
theorem own_cell (hsub : ∀ n c, cs.lookup n = some c → env.cells.lookup n = some c) {n : Str} {c : Addr} {v : Value} {Q : Unit → Shared → Prop} (x : InCallC s₀ env.locals m cs cm s) (hk : env.scope.kind = .function) (hl : env.kindOf n = some .cell)
    (hc : cs.lookup n = some c)
    (h : ∀ s', InCallC s₀ env.locals m cs (fun y => if y = n then some v else cm y) s' → Q () s') : wpAny M A (storeName env n v) Q E s := by
  have hLc := x.above n c (PySem.mem_of_lookup hc)
  refine wpAny_storeName_cell hk hl (hsub n c hc) (x.cell n c hc) fun h' hc' hs' => h _ ⟨⟨?_, x.toInCall.ns.sameBut hs' (Nat.ne_of_lt hLc), fun b o e => ?_, x.toInCall.fresh⟩, fun k c' hk' => ?_, x.apart, x.above⟩
  · obtain ⟨h₁, tk, rfl⟩ := x.toInCall.same
    exact ⟨h', _, rfl⟩
  · exact hs'.extBut b o (Nat.ne_of_lt (Nat.lt_trans (Nat.lt_of_lt_of_le (Heap.lt_size e) x.toInCall.fresh) hLc)) (x.toInCall.keep b o e)
  · by_cases hkn : k = n
    · subst hkn
      rw [hc] at hk'
      cases hk'
      simpa using hc'
    · rw [if_neg hkn]
      exact (x.cell k c' hk').sameBut hs' fun e => hkn (name_of_addr x.apart (PySem.mem_of_lookup hk') (e ▸ PySem.mem_of_lookup hc))
theorem bind_own (hsub : ∀ n c, cs.lookup n = some c → env.cells.lookup n = some c) (f : Str × Value → PUnit → Sem (ForInStep PUnit)) (hf : ∀ n v u, f (n, v) u = (do storeName env n v; pure (.yield ⟨⟩))) (hk : env.scope.kind = .function) :
    ∀ (binds : List (Str × Value)) (m cm : Str → Option Value) (s : Shared) (Q : PUnit → Shared → Prop), InCallC s₀ env.locals m cs cm s →
      (∀ x ∈ binds, env.kindOf x.1 = some .local ∨ (env.kindOf x.1 = some .cell ∧ (cs.lookup x.1).isSome = true)) →
      (∀ s', InCallC s₀ env.locals (bindL env.kindOf binds m) cs (bindC env.kindOf binds cm) s' → Q ⟨⟩ s') → wpAny M A (forIn binds ⟨⟩ f) Q E s
  | [], m, cm, s, Q, x, _, h => by rw [List.forIn_nil]; exact wpAny_pure (h s x)
  | (n, v) :: r, m, cm, s, Q, x, hkind, h => by
    rw [List.forIn_cons, hf]
    have hr : ∀ y ∈ r, env.kindOf y.1 = some .local ∨ (env.kindOf y.1 = some .cell ∧ (cs.lookup y.1).isSome = true) := fun y hy => hkind y (List.mem_cons_of_mem _ hy)
    rcases hkind (n, v) List.mem_cons_self with hl | ⟨hl, hc⟩
    · refine wpAny_bind (wpAny_bind (own_local hsub x hk hl fun s' x' => wpAny_pure (bind_own hsub f hf hk r _ _ s' Q x' hr fun s'' x'' => h s'' ?_)))
      unfold bindL bindC
      rw [if_pos hl, if_pos hl]
      exact x''
    · obtain ⟨c, hc⟩ := Option.isSome_iff_exists.mp hc
      have hnl : ¬ env.kindOf n = some .local := by rw [hl]; decide
      refine wpAny_bind (wpAny_bind (own_cell hsub x hk hl hc fun s' x' => wpAny_pure (bind_own hsub f hf hk r _ _ s' Q x' hr fun s'' x'' => h s'' ?_)))
      unfold bindL bindC
      rw [if_neg hnl, if_neg hnl]
      exact x''
end
theorem look_app {l m : List (Str × Addr)} {n : Str} {c : Addr} (h : l.lookup n = some c) : (l ++ m).lookup n = some c := by
  rw [List.lookup_append, h]
  rfl
section
variable {M : Model} {A : Around} {E : Value → Shared → Prop} {s : Shared}
theorem new_env_cc {scope : Scope} {globals : Addr} {cl : List (Str × Addr)} {binds : List (Str × Value)} {qual : Str} {func : Option Addr} {code : Value} {builtins : Addr} {Q : Env → Shared → Prop}
    (hk : scope.kind = .function)
    (hkind : ∀ x ∈ binds, scope.names.lookup x.1 = some .local ∨ (scope.names.lookup x.1 = some .cell ∧ ((cellsFrom (s.heap.objs.size + 1) scope.names []).lookup x.1).isSome = true))
    (hQ : ∀ env, env = newEnv scope s.heap.objs.size globals (cellsFrom (s.heap.objs.size + 1) scope.names [] ++ cl) qual func code none builtins →
      ∀ s', InCallC s env.locals (bindL env.kindOf binds fun _ => none) (cellsFrom (s.heap.objs.size + 1) scope.names []) (bindC env.kindOf binds fun _ => none) s' → Q env s') :
    wpAny M A (newFunctionEnv scope globals cl binds qual func code none builtins) Q E s := by
  simp only [newFunctionEnv, Option.isSome_none, Bool.false_eq_true, if_false]
  refine wpAny_bind (wpAny_alloc ?_)
  refine wpAny_bind (wpAny_layCells _ (fun name kind cells => by cases hkc : kind == NameKind.cell <;> simp [hkc]) _ _ _ _ ?_)
  have ok := cellsFrom_ok scope.names (s.heap.push { cls := .type "frame", data := .dict #[] }) (s.heap.objs.size + 1) [] ⟨fun _ _ hm => (nomatch hm), List.Pairwise.nil⟩ (by rw [Heap.size_push]; exact Nat.le_refl _)
  rw [Heap.size_push] at ok
  rw [show ({ s with heap := s.heap.push { cls := .type "frame", data := .dict #[] } } : Shared).heap.objs.size = s.heap.objs.size + 1 from Heap.size_push .., PySem.cellsFrom_over _ _ cl]
  refine wpAny_bind (bind_own (s₀ := s) (cs := cellsFrom (s.heap.objs.size + 1) scope.names []) (env := newEnv scope s.heap.objs.size globals (cellsFrom (s.heap.objs.size + 1) scope.names [] ++ cl) qual func code none builtins) (fun n c h => look_app h)
    _ (fun _ _ _ => rfl) hk binds (fun _ => none) (fun _ => none) _ _
    ⟨⟨⟨_, _, rfl⟩, (Heap.Ns.new s.heap (.type "frame")).keeps (pushCells_keeps _ _), fun b o e => pushCells_keeps _ _ b o (Heap.get?_push_of_some _ e), Nat.le_refl _⟩,
      fun n c hc => (ok.empty n c (PySem.mem_of_lookup hc)).1, ok.apart, fun n c hm => (ok.empty n c hm).2⟩
    hkind fun s' x => wpAny_pure (hQ _ rfl s' x))
end
/-- names of a nested def: a parameter may be a cell -/
structure GScope (N ps fr : List Str) (sc : Scope) : Prop where
  kind : sc.kind = .function
  co : sc.isCoroutine = false
  gen : sc.isGenerator = false
  nd : N.Nodup
  pre : N.take (ps.length + fr.length) = ps ++ fr
  par : ∀ x ∈ ps, sc.names.lookup x = some .local ∨ sc.names.lookup x = some .cell
  free : ∀ y ∈ sc.names, y.2 = .free → y.1 ∈ fr
  frk : ∀ x ∈ fr, sc.names.lookup x = some .free
  apart : ∀ x ∈ fr, ∀ y ∈ sc.names, y.2 = .cell → y.1 ≠ x
def gscB (N ps fr : List Str) (sc : Scope) : Bool :=
  decide (sc.kind = .function) && !sc.isCoroutine && !sc.isGenerator && decide N.Nodup && decide (N.take (ps.length + fr.length) = ps ++ fr) && ps.all (fun x => decide (sc.names.lookup x = some .local) || decide (sc.names.lookup x = some .cell)) && sc.names.all (fun y => !decide (y.2 = .free) || decide (y.1 ∈ fr)) && fr.all (fun x => decide (sc.names.lookup x = some .free)) && fr.all fun x => sc.names.all fun y => !decide (y.2 = .cell) || !decide (y.1 = x)
theorem gscope_by {N ps fr : List Str} {sc : Scope} (h : gscB N ps fr sc = true) : GScope N ps fr sc := by
  unfold gscB at h
  simp only [Bool.and_eq_true, Bool.not_eq_true', decide_eq_true_eq, List.all_eq_true, Bool.or_eq_true, decide_eq_false_iff_not] at h
  obtain ⟨⟨⟨⟨⟨⟨⟨⟨h1, h2⟩, h3⟩, h4⟩, h5⟩, h6⟩, h7⟩, h8⟩, h9⟩ := h
  exact ⟨h1, h2, h3, h4, h5, h6, fun y hy e => (h7 y hy).elim (fun z => absurd e z) id, h8, fun x hx y hy e => (h9 x hx y hy).elim (fun z => absurd e z) id⟩
theorem cellsFrom_names : ∀ (names : List (Str × NameKind)) (n : Nat) (acc : List (Str × Addr)) {y : Str} {c : Addr}, (y, c) ∈ cellsFrom n names acc → (y, c) ∈ acc ∨ (y, NameKind.cell) ∈ names
  | [], _, _, _, _, h => .inl h
  | (name, kind) :: r, n, acc, y, c, h => by
    unfold cellsFrom at h
    split at h
    · rename_i hk
      rcases cellsFrom_names r (n + 1) _ h with z | z
      · rcases List.mem_cons.mp z with e | z
        · cases e
          refine .inr (List.mem_cons.mpr (.inl ?_))
          rw [beq_iff_eq.mp hk]
        · exact .inl z
      · exact .inr (List.mem_cons_of_mem _ z)
    · rcases cellsFrom_names r n acc h with z | z
      · exact .inl z
      · exact .inr (List.mem_cons_of_mem _ z)
/-- its frame -/
abbrev envG (F : NF) (f L : Addr) : Env := PySem.W.envX F.qual F.scope L f (.ref F.c) (cellsFrom (L + 1) F.scope.names [] ++ F.cl)
def gcx (CX : CXT) (P : Program) (w : World) (K : PySem.W.Frag) (mg : Str → Option Value) (base : Heap) (N : List Str) (F : NF) (f : Addr) (A : Around) (outer : List Env) (s : Shared) (H : Hp) (E : XK) : Cx where
  prog := P
  w := w
  K := K
  mg := mg
  base := base
  A := A.deeper (envG F f s.heap.objs.size)
  N := N
  s_0 := s
  H_0 := H
  env := envG F f s.heap.objs.size
  outer := outer
  stack := envG F f s.heap.objs.size :: outer
  ex := []
  calm := true
  fn := fun _ => false
  pn := []
  xe := fun e s' => wpAny (model P w) (A.deeper (envG F f s.heap.objs.size)) (leaving (envG F f s.heap.objs.size) e) (fun _ s'' => CX outer H s E e s'') (fun e' s'' => CX outer H s E e' s'') s'
section
variable {CX : CXT} {P : Program} {w : World} {K : PySem.W.Frag} {mg : Str → Option Value} {base : Heap} {N ps fr : List Str} {F : NF} {f : Addr} {A : Around} {outer : List Env} {s s1 : Shared} {H : Hp} {E : XK} {us : List Value} {vs : List V} {ws : List (Option V)}
theorem look_or {l m : List (Str × Addr)} {n : Str} {c : Addr} (h : (l ++ m).lookup n = some c) : l.lookup n = some c ∨ (l.lookup n = none ∧ m.lookup n = some c) := by
  rw [List.lookup_append] at h
  cases e : l.lookup n with
  | some x => rw [e] at h; exact .inl h
  | none => rw [e] at h; exact .inr ⟨rfl, h⟩
theorem inv_startG (S : GScope N ps fr F.scope) (hd : A.handled = none) (e0 : Env0 P w K mg base A outer s H) (hl : vs.length = ps.length) (r : Vals vs us) (C : CellsAt F.cl fr ws s.heap H)
    (x : InCallC s s.heap.objs.size (bindL (envG F f s.heap.objs.size).kindOf (ps.zip us) fun _ => none) (cellsFrom (s.heap.objs.size + 1) F.scope.names []) (bindC (envG F f s.heap.objs.size).kindOf (ps.zip us) fun _ => none) s1) :
    Inv (gcx CX P w K mg base N F f A outer s H E) [] (startF N vs ws) H s1 := by
  have hpl : ps.length + fr.length ≤ N.length := by
    have q := congrArg List.length S.pre
    rw [List.length_take, List.length_append] at q
    omega
  obtain ⟨h₁, tk, rfl, kp⟩ := x.done
  have noA : ∀ b : Addr, b ∉ (gcx CX P w K mg base N F f A outer s H E).ex := fun b z => absurd (show b ∈ ([] : List Addr) from z) (by simp)
  have cellK : ∀ {c : Addr} {v : Option Value}, s.heap.IsCell c v → h₁.IsCell c v := fun {c v} ⟨o, ho, hd⟩ => ⟨o, kp _ _ ho, hd⟩
  have ndP : ps.Nodup := by
    have q := S.nd.sublist (List.take_sublist (ps.length + fr.length) N)
    rw [S.pre] at q
    exact (List.nodup_append.mp q).1
  have old : ∀ y c, F.cl.lookup y = some c → c < s.heap.objs.size := fun y c e => by
    obtain ⟨_, v, z⟩ := C.all y c e
    exact z.lt
  have own : ∀ y c, (cellsFrom (s.heap.objs.size + 1) F.scope.names []).lookup y = some c → s.heap.objs.size < c := fun y c e => x.above y c (PySem.mem_of_lookup e)
  have ofr : ∀ y ∈ fr, (cellsFrom (s.heap.objs.size + 1) F.scope.names []).lookup y = none := fun y hy => by
    cases e : (cellsFrom (s.heap.objs.size + 1) F.scope.names []).lookup y with
    | none => rfl
    | some c =>
      rcases cellsFrom_names _ _ _ (PySem.mem_of_lookup e) with z | z
      · cases z
      · exact absurd rfl (S.apart y hy _ z rfl)
  refine ⟨⟨e0.mod, S.kind, rfl, rfl, Nat.le_refl _, fun y z c h1 h2 => ?_, fun y hy => ?_, fun y c z _ => ?_, fun _ => hd, Around.frames_deeper e0.frames, .inr ⟨rfl, rfl⟩, fun b z => absurd z (noA b), e0.bs, e0.bsz, fun b _ _ => noA b,
      fun b z => absurd z (noA b), e0.funs, e0.frf⟩,
    rfl, e0.bare, Un.kept kp, ⟨_, x.toInCall.ns, fun i y v e1 e2 e3 => ?_⟩, fun y c e => ?_, e0.hok.fresh (Nat.le_refl _), fun y c e => ?_, fun q hq => absurd (show q ∈ ([] : List (Addr × Obj)) ++ [] from hq) (by simp), e0.hok.kept kp, ?_⟩
  · rcases look_or h1 with a | ⟨_, a⟩ <;> rcases look_or h2 with b | ⟨_, b⟩
    · exact name_of_addr x.apart (PySem.mem_of_lookup a) (PySem.mem_of_lookup b)
    · exact absurd (old _ _ b) (Nat.not_lt.mpr (Nat.le_of_lt (own _ _ a)))
    · exact absurd (old _ _ a) (Nat.not_lt.mpr (Nat.le_of_lt (own _ _ b)))
    · exact C.inj _ _ c a b
  · have hy : F.scope.names.lookup y = some .cell ∨ F.scope.names.lookup y = some .free := hy
    rcases hy with hy | hy
    · obtain ⟨c, e⟩ := cell_has (n := s.heap.objs.size + 1) hy
      exact ⟨c, look_app e⟩
    · have hf := S.free _ (PySem.mem_of_lookup hy) rfl
      obtain ⟨i, hi⟩ := List.mem_iff_getElem?.mp hf
      obtain ⟨c, hc, _⟩ := C.has i y hi
      exact ⟨c, by show (cellsFrom (s.heap.objs.size + 1) F.scope.names [] ++ F.cl).lookup y = _; rw [List.lookup_append, ofr y hf]; exact hc⟩
  · have z : false = true := z
    cases z
  · have e1 : N[i]? = some y := e1
    have clen := C.len
    unfold startF at e2
    by_cases h1 : i < ps.length
    · have hq : (ps ++ fr)[i]? = some y := by
        rw [← S.pre, List.getElem?_take_of_lt (by omega)]
        exact e1
      rw [List.getElem?_append_left h1] at hq
      rw [List.getElem?_append_left (by rw [List.length_map]; omega), List.getElem?_map] at e2
      have ha : vs[i]? = some v := by
        cases e : vs[i]? with
        | none => rw [e] at e2; cases e2
        | some a => rw [e] at e2; cases e2; rfl
      obtain ⟨u, hu, rv⟩ := r.get ha
      refine ⟨u, rv, ?_⟩
      rcases S.par y (List.mem_of_getElem? hq) with k | k
      · exact .inl ⟨k, bindL_get ndP hq hu k⟩
      · obtain ⟨c, e⟩ := cell_has (n := s.heap.objs.size + 1) k
        refine .inr ⟨.inl k, c, look_app e, ?_⟩
        have q := x.cell y c e
        rw [bindC_get ndP hq hu (by show F.scope.names.lookup y ≠ _; rw [k]; decide)] at q
        exact q
    · rw [List.getElem?_append_right (by rw [List.length_map]; omega), List.length_map] at e2
      by_cases h2 : i < ps.length + fr.length
      · have hq : (ps ++ fr)[i]? = some y := by
          rw [← S.pre, List.getElem?_take_of_lt (by omega)]
          exact e1
        rw [List.getElem?_append_right (by omega)] at hq
        rw [List.getElem?_append_left (by omega), hl] at e2
        obtain ⟨c, hc, hv⟩ := C.has (i - ps.length) y hq
        obtain ⟨u, ru, hu⟩ := hv v e2
        have hf := List.mem_of_getElem? hq
        exact ⟨u, ru, .inr ⟨.inr (S.frk y hf), c, by show (cellsFrom (s.heap.objs.size + 1) F.scope.names [] ++ F.cl).lookup y = _; rw [List.lookup_append, ofr y hf]; exact hc, cellK hu⟩⟩
      · rw [List.getElem?_append_right (by omega), List.getElem?_replicate] at e2
        split at e2 <;> cases e2
  · rcases look_or e with a | ⟨_, a⟩
    · exact ⟨_, x.cell y c a⟩
    · obtain ⟨v, z⟩ := (C.all y c a).2
      exact ⟨v, cellK z⟩
  · rcases look_or e with a | ⟨_, a⟩
    · exact e0.hok.fresh (Nat.le_of_lt (own y c a))
    · exact (C.all y c a).1
  · have clen := C.len
    unfold startF
    show _ = N.length
    rw [List.length_append, List.length_append, List.length_map, List.length_replicate]
    omega
theorem nok_ofG {k : Nat} {sp : List (Option V) → Sp} (S : GScope N ps fr F.scope) (hb : ∀ (doc pm ctv : Value) (us : List Value), us.length = ps.length → bindArgs (F.fd doc pm ctv) ⟨us, []⟩ = pure (ps.zip us)) (len : ∀ ws vs H Q E, sp ws vs H Q E → vs.length = ps.length)
    (hbody : ∀ (A : Around) (outer : List Env) (s : Shared) (H : Hp) (vs : List V) (ws : List (Option V)) (Q : VK) (E : XK), Room k (A.deeper (envG F f s.heap.objs.size)) → H f = some (FnO f F) → H F.c = some (CodeO F.c F.qual) → ws.length = fr.length → sp ws vs H Q E →
      ∃ t, PSs (gcx CX P w K mg base N F f A outer s H E) F.body t ∧ t { nx := fun _ H' => Q .non H', rt := Q } (startF N vs ws) H) :
    NOk P w K mg base CX (k + 1) f F ps fr sp := by
  refine ⟨len, fun A outer s H us vs ws Q E hr e0 hf hc C r hsp => ?_⟩
  have hl := len _ _ _ _ _ hsp
  have lim : s.heap.NoLimit := e0.mod.nolimit.keeps fun b o e => (e0.bs b o e).1
  obtain ⟨od, sl, doc, pm, ctv, ho⟩ := fnO_at e0.hok hf
  refine codeAny_call_function hr.depth ho rfl S.co S.gen rfl (codeO_at e0.hok hc) ?_
  rw [hb doc pm ctv us (by rw [← r.length]; exact hl)]
  have hkind : ∀ y ∈ ps.zip us, F.scope.names.lookup y.1 = some .local ∨ (F.scope.names.lookup y.1 = some .cell ∧ ((cellsFrom (s.heap.objs.size + 1) F.scope.names []).lookup y.1).isSome = true) := fun ⟨n, v⟩ hy => by
    rcases S.par n (List.of_mem_zip hy).1 with q | q
    · exact .inl q
    · exact .inr ⟨q, PySem.W.cellsFrom_some _ _ _ (.inl q)⟩
  refine wpAny_pure (new_env_cc S.kind hkind fun env he s1 x => ?_)
  subst he
  refine ⟨lim.keeps x.toInCall.keep, ?_⟩
  show codeAny _ _ (.func F.body (envG F f s.heap.objs.size)) _ _
  refine codeAny_func ?_
  obtain ⟨t, ht, hq⟩ := hbody A outer s H vs ws Q E (hr.deeper _) hf hc C.len hsp
  have I : Inv (gcx CX P w K mg base N F f A outer s H E) [] (startF N vs ws) H s1 := inv_startG S hr.hd e0 hl r C x
  refine wpAny_mono (ht.run [] _ (startF N vs ws) H _ I hq) (fun fl s' hs => ?_) fun e s' hs => hs
  have fin : ∀ {σ' : L2.St} {H' : Hp} {v : V} {u : Value}, Inv (gcx CX P w K mg base N F f A outer s H E) [] σ' H' s' → L2.RelV v u → Q v H' → CE outer P w H s Q u s' :=
    fun {σ' H' v u} J rv q => ⟨v, H', J.os, J.bare, J.base, J.hok, rv, q⟩
  cases fl with
  | ret u =>
    obtain ⟨v, σ', H', J, rv, q⟩ := hs
    exact fin J rv q
  | next =>
    obtain ⟨σ', H', J, q⟩ := hs
    exact fin (v := V.non) (u := Value.none) J rfl q
  | brk =>
    obtain ⟨_, _, _, q⟩ := hs
    exact False.elim q
  | cont =>
    obtain ⟨_, _, _, q⟩ := hs
    exact False.elim q
end
end Cw
set_option Elab.async false
set_option linter.all false
set_option maxRecDepth 100000
set_option maxHeartbeats 4000000
/-! behind_of -/
namespace Cw
open PySem PySem.Spec PyProof.Rows L2 Kw NdefX LamX
abbrev sBRoom : Stmt := (defBody sBehind).getD 3 (.Pass ⟨0, 0, 0, 0⟩)
abbrev sBOn : Stmt := (defBody sBehind).getD 4 (.Pass ⟨0, 0, 0, 0⟩)
abbrev sBYes : Stmt := (defBody sBehind).getD 5 (.Pass ⟨0, 0, 0, 0⟩)
abbrev nBRoom : List Str := ["here", "some", "yes", "there"]
abbrev nBOn : List Str := ["room", "k", "moves", "other_moves", "room_of", "there"]
abbrev nBYes : List Str := ["room", "other_yes", "there"]
theorem scBRoom : NScope nBRoom ["here", "some"] ["yes"] (C8.fnScope sBRoom) := nscope_by (by decide +kernel)
theorem scBOn : GScope nBOn ["room", "k"] ["moves", "other_moves", "room_of"] (C8.fnScope sBOn) := gscope_by (by decide +kernel)
theorem scBYes : NScope nBYes ["room"] ["other_yes"] (C8.fnScope sBYes) := nscope_by (by decide +kernel)
def nmB (l _ : Nat) : Str := if l = (stmtPos sBRoom).line then (("behind_of.<locals>." : Str) ++ "room_of") else if l = (stmtPos sBOn).line then (("behind_of.<locals>." : Str) ++ "onward") else (("behind_of.<locals>." : Str) ++ "is_yes")
section
variable {P : Program} {w : World} {K : PySem.W.Frag} {mg : Str → Option Value} {base : Heap}
def spBRoom : List (Option V) → Sp := fun ws vs H Q _ => ∃ (y : V) (l : Addr) (m : Mc) (k r : Nat) (ns : List Nat), ws = [some y] ∧ vs = [iv r, .ref l] ∧ BlsAt H y m.ys ∧ m.Valid k ∧ r < m.mv.length ∧ H l = some (.lst (ns.map iv)) ∧ ns.length ≤ 60 ∧
  ∀ H' u, Same H H' → RmAt H' u (.some r (ss (ns ++ if m.y r then [0] else []))) → Q u H'
theorem ok_broom {f c' : Addr} {q : Str} {cl : List (Str × Addr)} (mlist : mg "list" = none) (mset : mg "set" = none) (msor : mg "sorted" = none) (mtup : mg "tuple" = none) :
    NOk P w K mg base CX0 1 f (NF.of sBRoom "room_of" q cl c') ["here", "some"] ["yes"] spBRoom := by
  refine nok_of scBRoom (fun doc pm ctv us hl => match us, hl with | [_, _], _ => rfl) (fun ws vs H Q E h => ?_) (fun A outer s H vs ws Q E hr hf hco hl h => ?_)
  · obtain ⟨y, l, m, k, r, ns, _, rfl, _⟩ := h
    rfl
  · obtain ⟨y, l, m, k, r, ns, rfl, rfl, ⟨py, rfl, hy⟩, hv, hr1, hl1, hn, q⟩ := h
    have nd := scBRoom.nd
    refine ⟨_, pss_cons (ps_set (i := 3) nd rfl (.inl rfl) (pe_callTy call_list_of (by rfl) mlist bList (pa_cons (pv 1) pa_nil)))
      (pss_cons (ps_if (pt_val (pe_ix ix_tup (pv 2) (pv 0) (fun _ _ => rfl))) (pss_one (ps_expr (pe_bm PySem.F.plainAttrs_list PySem.F.slot_list_append PySem.F.type_list_append mt_append (pv 3) (pa_cons pe_int pa_nil)))) pss_nil)
      (pss_one (ps_ret (pe_tup (pa_cons (pv 0) (pa_cons (pe_callTy call_tuple_of (by rfl) mtup bTuple (pa_cons (pe_callB (cr_sortedSet rfl) (by rfl) msor bSorted (pa_cons (pe_callTy (cr_setL rfl) (by rfl) mset bSet (pa_cons (pv 3) pa_nil)) pa_nil)) pa_nil)) pa_nil)))))), ?_⟩
    refine ⟨.ref l, rfl, l, _, rfl, .inl (SqL.of hl1), fun t nt => ?_⟩
    have s1 : Same H (upd H t (.lst (ns.map iv))) := Same.new nt
    refine ⟨.ref py, rfl, iv r, rfl, py, _, _, _, rfl, rfl, SqT.of (s1 _ _ hy), atI_nat (bl_get (ys_get hv hr1)), _, rfl, ?_⟩
    refine ite_join (fun σ' H' => σ' = [some (iv r), some (.ref l), some (.ref py), some (.ref t)] ∧ Same H H' ∧ H' t = some (.lst ((ns ++ if m.y r then [0] else []).map iv))) (fun σ' H' hN => ?_) (fun e hN => ?_) (fun e => ?_)
    · obtain ⟨rfl, s2, ht⟩ := hN
      have hz : (ns ++ if m.y r then [0] else []).length ≤ 61 := by
        rw [List.length_append]
        split
        · simp; omega
        · simp; omega
      generalize hns : (ns ++ if m.y r then [0] else []) = ns2 at ht hz q
      refine ⟨iv r, rfl, .ref t, rfl, t, ns2, rfl, SqL.of ht, by omega, fun a c na hc => ?_⟩
      refine ⟨a, _, c, rfl, upd_same, by omega, fun is p rise mem len np => ?_⟩
      have es := sorted_ss rise mem
      rw [es]
      refine ⟨p, _, rfl, .inl ⟨SqL.of upd_same, fun t2 nt2 => ?_⟩⟩
      refine ⟨by show 2 ≤ sizeLine; decide, fun t3 nt3 => ?_⟩
      have ne3 : t2 ≠ t3 := fun e => by
        rw [← e, upd_same] at nt3
        cases nt3
      refine q _ _ ?_ ⟨t3, t2, rfl, upd_same, by rw [upd_ne ne3, upd_same]⟩
      exact s2.trans ((Same.new na).trans ((Same.new np).trans ((Same.new nt2).trans (Same.new nt3))))
    · rw [e] at hN
      have nt' : (upd H t (.lst (ns.map iv))) t = some (.lst (ns.map iv)) := upd_same
      refine ⟨.ref t, rfl, .inl ⟨rfl, _, SqL.of nt'⟩, t, _, _, rfl, rfl, nt', by rw [List.length_map]; exact small (by omega), ?_⟩
      refine hN _ _ ⟨rfl, s1.upd nt, ?_⟩
      rw [upd_same, List.map_append]
      rfl
    · refine ⟨rfl, s1, ?_⟩
      rw [e, upd_same]
      simp
/-- the room_of that onward has captured -/
def RoomOf (P : Program) (w : World) (K : PySem.W.Frag) (mg : Str → Option Value) (base : Heap) (j : Nat) (H : Hp) (f : Addr) (m : Mc) : Prop :=
  ∀ (H' : Hp), Same H H' → ∃ S, Clo P w K mg base j H' f S ∧ ∀ (r : Nat) (l : Addr) (ns : List Nat) (Q' : VK), r < m.mv.length → H' l = some (.lst (ns.map iv)) → ns.length ≤ 60 →
    (∀ H'' u, Same H' H'' → RmAt H'' u (.some r (ss (ns ++ if m.y r then [0] else []))) → Q' u H'') → S [iv r, .ref l] H' Q'
def spBOn (P : Program) (w : World) (K : PySem.W.Frag) (mg : Str → Option Value) (base : Heap) : List (Option V) → Sp := fun ws vs H Q _ => ∃ (x y v : V) (fr : Addr) (m n : Mc) (k r a : Nat) (js : List Nat), ws = [some x, some y, some (.ref fr)] ∧ vs = [v, iv a] ∧ MvAt H x m.mv ∧ MvAt H y n.mv ∧ RoomOf P w K mg base 1 H fr m ∧ m.Valid k ∧ n.Valid k ∧
  RmAt H v (.some r js) ∧ r < m.mv.length ∧ (∀ t ∈ js, t < n.mv.length) ∧ js.length ≤ 60 ∧ a < k ∧ ∀ H' u, Same H H' → RmAt H' u (.some (m.to r a) (ss (js.map (fun t => n.to t a) ++ if m.y (m.to r a) then [0] else []))) → Q u H'
theorem ok_bon {f c' : Addr} {q : Str} {cl : List (Str × Addr)} : NOk P w K mg base CX0 2 f (NF.of sBOn "onward" q cl c') ["room", "k"] ["moves", "other_moves", "room_of"] (spBOn P w K mg base) := by
  refine nok_ofG scBOn (fun doc pm ctv us hl => match us, hl with | [_, _], _ => rfl) (fun ws vs H Q E h => ?_) (fun A outer s H vs ws Q E hr hf hco hl h => ?_)
  · obtain ⟨x, y, v, fr, m, n, k, r, a, js, _, rfl, _⟩ := h
    rfl
  · obtain ⟨x, y, v, fr, m, n, k, r, a, js, rfl, rfl, hx, hy, hro, hv, hn, ⟨p, p2, rfl, hp, hp2⟩, hr1, hjs, hjl, ha, q⟩ := h
    have nd := scBOn.nd
    refine ⟨_, pss_one (ps_ret (pe_clo (i := 4) hr rfl (by first | exact Or.inl rfl | exact Or.inr (Or.inl rfl) | exact Or.inr (Or.inr rfl)) (pa_cons (pe_ix ix_tup (pe_ix ix_tup (pv 2) (pe_ix ix_tup (pv 0) pe_int (fun _ _ => rfl)) (fun _ _ => rfl)) (pv 1) (fun _ _ => rfl))
      (pa_cons (pe_lc (own := [("there", 5)]) (g := gName 5) (tt := tYes) rfl nd (piT K (pe_ix (ixT K) (pv 0) pe_int (fun _ _ => rfl))) (blkOk_by (own := [("there", 5)]) (N := nBOn) (sc := C8.fnScope sBOn) (by decide +kernel)) (fun _ _ _ _ _ => pg_name (i := 5) nd rfl (Or.inl rfl)) (fun _ _ _ _ _ => pts_nil)
          (fun _ _ _ _ _ => pe_ix (ixT K) (pe_ix (ixT K) (pv 3) (pv 5) (fun _ _ => rfl)) (pv 1) (fun _ _ => rfl))) pa_nil)))), ?_⟩
    obtain ⟨px, vs, rfl, hpx, hvl, hrow⟩ := hx.row
    obtain ⟨py, vs', rfl, hpy, hvl', hrow'⟩ := hy.row
    obtain ⟨q1, e1, h1⟩ := hrow r _ (mv_get hr1)
    obtain ⟨S0, c0, _⟩ := hro H (Same.refl H)
    refine ⟨fr, rfl, c0.1, ?_⟩
    refine ⟨.ref px, rfl, .ref p, rfl, p, _, _, _, rfl, rfl, SqT.of hp, (atI_nat (j := 0) rfl), px, _, _, _, rfl, rfl, SqT.of hpx, atI_nat e1, iv a, rfl, q1, _, _, _, rfl, rfl, SqT.of h1, atI_nat (iv_get (to_get hv hr1 ha)), ?_⟩
    refine ⟨.ref p, rfl, p, _, _, _, rfl, rfl, SqT.of hp, (atI_nat (j := 1) rfl), p2, rfl, ⟨_, SqT.of hp2⟩, fun D hD => ?_⟩
    refine lc_of_tup (xs := js.map iv) (fun j v _ => ∀ t, js[j]? = some t → v = iv (n.to t a)) (fun i v _ _ h _ => h) hD (fun H7 st7 => SqT.of (st7 _ _ hp2)) (by rw [List.length_map]; exact small' (by omega)) (fun j v hj => ?_) (fun H7 ys st7 hD7l hyl7 hys7 => ?_)
    · intro H7 R' S' st7 hR'
      rw [List.getElem?_map] at hj
      obtain ⟨t, ht, rfl⟩ := Option.map_eq_some_iff.mp hj
      have tl := hjs t (List.mem_of_getElem? ht)
      obtain ⟨q2, e2, h2⟩ := hrow' t _ (mv_get tl)
      refine ⟨rfl, ?_⟩
      refine ⟨.ref py, rfl, iv t, rfl, py, _, _, _, rfl, rfl, SqT.of (st7 _ _ hpy), atI_nat e2, iv a, rfl, q2, _, _, _, rfl, rfl, SqT.of (st7 _ _ h2), atI_nat (iv_get (to_get hn tl ha)), hR' _ _ (Same.refl _) fun t' e => ?_⟩
      rw [ht] at e
      cases e
      rfl
    · have eys : ys = (js.map fun t => n.to t a).map iv := by
        rw [List.map_map]
        exact all_map (f := fun t => iv (n.to t a)) (by rw [hyl7, List.length_map]) hys7
      rw [eys] at hD7l
      obtain ⟨S1, c1, use⟩ := hro H7 st7
      exact ⟨S1, c1, use _ D _ _ (Mc.to_lt hv r a) hD7l (by rw [List.length_map]; exact hjl) fun H8 u s8 r8 => q H8 u (st7.trans s8) r8⟩
def spBYes : List (Option V) → Sp := fun ws vs H Q _ => ∃ (y v : V) (n : Mc) (k r : Nat) (js : List Nat), ws = [some y] ∧ vs = [v] ∧ BlsAt H y n.ys ∧ n.Valid k ∧ RmAt H v (.some r js) ∧ (∀ t ∈ js, t < n.mv.length) ∧ js.length ≤ 60 ∧ ∀ H', Same H H' → Q (.bl (js.any n.y)) H'
theorem ok_byes {f c' : Addr} {q : Str} {cl : List (Str × Addr)} (many : mg "any" = none) : NOk P w K mg base CX0 1 f (NF.of sBYes "is_yes" q cl c') ["room"] ["other_yes"] spBYes := by
  refine nok_of scBYes (fun doc pm ctv us hl => match us, hl with | [_], _ => rfl) (fun ws vs H Q E h => ?_) (fun A outer s H vs ws Q E hr hf hco hl h => ?_)
  · obtain ⟨y, v, n, k, r, js, _, rfl, _⟩ := h
    rfl
  · obtain ⟨y, v, n, k, r, js, rfl, rfl, ⟨py, rfl, hy⟩, hn, ⟨p, p2, rfl, hp, hp2⟩, hjs, hjl, q⟩ := h
    have nd := scBYes.nd
    refine ⟨_, pss_one (ps_ret (pe_callB (cr_any rfl) (by rfl) many bAny (pa_cons (pe_lc (own := [("there", 2)]) (g := gName 2) (tt := tYes) rfl nd (piT K (pe_ix (ixT K) (pv 0) pe_int (fun _ _ => rfl))) (blkOk_by (own := [("there", 2)]) (N := nBYes) (sc := C8.fnScope sBYes) (by decide +kernel)) (fun _ _ _ _ _ => pg_name (i := 2) nd rfl (Or.inl rfl)) (fun _ _ _ _ _ => pts_nil)
          (fun _ _ _ _ _ => pe_ix (ixT K) (pv 1) (pv 2) (fun _ _ => rfl))) pa_nil))), ?_⟩
    refine ⟨.ref p, rfl, p, _, _, _, rfl, rfl, SqT.of hp, (atI_nat (j := 1) rfl), p2, rfl, ⟨_, SqT.of hp2⟩, fun D hD => ?_⟩
    refine lc_of_tup (xs := js.map iv) (fun j v _ => ∀ t, js[j]? = some t → v = .bl (n.y t)) (fun i v _ _ h _ => h) hD (fun H7 st7 => SqT.of (st7 _ _ hp2)) (by rw [List.length_map]; exact small' (by omega)) (fun j v hj => ?_) (fun H7 ys st7 hD7l hyl7 hys7 => ?_)
    · intro H7 R' S' st7 hR'
      rw [List.getElem?_map] at hj
      obtain ⟨t, ht, rfl⟩ := Option.map_eq_some_iff.mp hj
      have tl := hjs t (List.mem_of_getElem? ht)
      refine ⟨rfl, ?_⟩
      refine ⟨.ref py, rfl, iv t, rfl, py, _, _, _, rfl, rfl, SqT.of (st7 _ _ hy), atI_nat (bl_get (ys_get hn tl)), hR' _ _ (Same.refl _) fun t' e => ?_⟩
      rw [ht] at e
      cases e
      rfl
    · have eys : ys = (js.map n.y).map V.bl := by
        rw [List.map_map]
        exact all_map (f := fun t => V.bl (n.y t)) (by rw [hyl7, List.length_map]) hys7
      rw [eys] at hD7l
      have e : (js.map n.y).any id = js.any n.y := by rw [List.any_map]; rfl
      refine ⟨D, js.map n.y, rfl, SqL.of hD7l, ?_⟩
      rw [e]
      exact q H7 st7
end
/-- a function made here, its cells held; whose they are -/
theorem held_made2 {X : Cx} {σ : L2.St} {H : Hp} {ob : Addr → Option Obj} (O : OwnCells X σ H ob) {scope : Scope} {fr : List Str} {js : List Nat} (hfree : ∀ y ∈ scope.names, y.2 = .free → X.env.scope.names.lookup y.1 = some .cell ∨ X.env.scope.names.lookup y.1 = some .free) (hfr : ∀ y ∈ fr, (y, NameKind.free) ∈ scope.names) (hjs : js.map (fun j => X.N[j]?) = fr.map some) :
    ∃ ob' : Addr → Option Obj, (∀ b o, ob' b = some o → ∃ y, (y, NameKind.free) ∈ scope.names ∧ X.env.cells.lookup y = some b) ∧ HeldAt ob' (hold ob H) (cloFrom X.env.cells scope.names []) fr (js.map (slotAt σ)) := by
  classical
  have hf : ∀ y ∈ scope.names, y.2 = .free → ∃ c, X.env.cells.lookup y.1 = some c := fun y hy e => O.has _ (hfree y hy e)
  let ob' : Addr → Option Obj := fun b => if ∃ y, (cloFrom X.env.cells scope.names []).lookup y = some b then ob b else none
  have at_in : ∀ {y c}, (cloFrom X.env.cells scope.names []).lookup y = some c → ob' c = ob c := fun {y c} e => if_pos ⟨y, e⟩
  have sub : ∀ b o, ob' b = some o → ob b = some o := fun b o e => by
    have e : (if ∃ y, (cloFrom X.env.cells scope.names []).lookup y = some b then ob b else none) = some o := e
    split at e
    · exact e
    · cases e
  refine ⟨ob', fun b o e => ?_, ?_, fun y c e => ?_, fun c o e => hold_in (sub c o e), fun x y c e1 e2 => O.inj x y c (clo_cm hf e1) (clo_cm hf e2), fun i y e => ?_⟩
  · have e : (if ∃ y, (cloFrom X.env.cells scope.names []).lookup y = some b then ob b else none) = some o := e
    split at e
    · rename_i z
      obtain ⟨y, hy⟩ := z
      rcases cloFrom_mem (PySem.mem_of_lookup hy) with q | ⟨q, _⟩
      · cases q
      · exact ⟨y, q, clo_cm hf hy⟩
    · cases e
  · have q := congrArg List.length hjs
    rw [List.length_map, List.length_map] at q
    rw [List.length_map]
    exact q
  · obtain ⟨o, v, h1, h2⟩ := O.cov y c (clo_cm hf e)
    exact ⟨o, v, by rw [at_in e]; exact h1, h2⟩
  · have hy := List.mem_of_getElem? e
    have k := hfree (y, .free) (hfr y hy) rfl
    obtain ⟨c, hc⟩ := O.has y k
    have hcl := clo_has hf (hfr y hy) hc
    refine ⟨c, hcl, fun v ev => ?_⟩
    have e2 : (js.map fun j => X.N[j]?)[i]? = some (some y) := by
      rw [hjs, List.getElem?_map, e] <;> rfl
    rw [List.getElem?_map] at e2 ev
    cases ej : js[i]? with
    | none => rw [ej] at e2; cases e2
    | some j =>
      rw [ej] at e2 ev
      obtain ⟨o, u, h1, h2, h3⟩ := O.val j y c v (Option.some.inj e2) hc k (Option.some.inj ev)
      exact ⟨o, u, by rw [at_in hcl]; exact h1, h2, h3⟩
theorem HeldAt.apart {ob ob2 : Addr → Option Obj} {H : Hp} {cl : List (Str × Addr)} {fr : List Str} {ws : List (Option V)} (h : HeldAt ob H cl fr ws) (d : ∀ c o, ob c = some o → ob2 c = none) : HeldAt ob (loose ob2 H) cl fr ws :=
  ⟨h.len, h.cov, fun c o e => by rw [loose_out (d c o e)]; exact h.held c o e, h.inj, h.val⟩
section
variable {P : Program} {w : World} {K : PySem.W.Frag} {mg : Str → Option Value} {base : Heap} {k : Nat} {f : Addr} {F : NF} {ps fr : List Str} {sp : List (Option V) → Sp} {ob : Addr → Option Obj} {H : Hp} {ws : List (Option V)}
theorem clo_use2 (Fn : NOk P w K mg base CX0 k f F ps fr sp) (hf : H f = some (FnO f F)) (hco : H F.c = some (CodeO F.c F.qual)) (hc : HeldAt ob H F.cl fr ws) (H' : Hp) (st : Same H H') : ∃ S, Clo P w K mg base k H' f S ∧ ∀ (vs : List V) (R : VK) (Q : VK), (∀ v H3 H4, Tst H3 H4 → R v H3 → R v H4) →
      (∀ Q', (∀ v H3, Same (loose ob H') H3 → R v H3 → Q' v H3) → sp ws vs (loose ob H') Q' E0) → (∀ v H4, Same H' H4 → R v H4 → Q v H4) → S vs H' Q := by
  refine ⟨_, clo_ofC Fn (st _ _ hf) (st _ _ hco) (hc.same st), fun vs R Q hR h q => ?_⟩
  have held := (hc.same st).held
  refine h _ fun v H3 s3 r3 n3 => ?_
  exact q v _ (hold_back held s3) (hR v _ _ (hold_tst n3) r3)
end
/-- letting go keeps what is no held cell -/
theorem loose_fn {ob : Addr → Option Obj} {H : Hp} {f : Addr} {F : NF} (held : ∀ c o, ob c = some o → H c = some (.frz o (.own c))) (h : H f = some (FnO f F)) : loose ob H f = some (FnO f F) := by
  rw [loose_out (ob_none fun o z => by
    have e := held f o z
    rw [h] at e
    cases e)]
  exact h
theorem loose_co {ob : Addr → Option Obj} {H : Hp} {c : Addr} {q : Str} (held : ∀ c o, ob c = some o → H c = some (.frz o (.own c))) (h : H c = some (CodeO c q)) : loose ob H c = some (CodeO c q) := by
  rw [loose_out (ob_none fun o z => by
    have e := held c o z
    rw [h] at e
    cases e)]
  exact h
theorem loose_lst {ob : Addr → Option Obj} {H : Hp} {c : Addr} {xs : List V} (held : ∀ c o, ob c = some o → H c = some (.frz o (.own c))) (h : H c = some (.lst xs)) : loose ob H c = some (.lst xs) := by
  rw [loose_out (ob_none fun o z => by
    have e := held c o z
    rw [h] at e
    cases e)]
  exact h
section
variable {P : Program} {w : World} {K : PySem.W.Frag} {mg : Str → Option Value} {base : Heap}
def spBehind (C : Addr) (T : List NTab) : Sp := fun vs H Q E => ∃ (x y : V) (ls : Str) (m n : Mc) (most : Nat) (g : Gr Rm), vs = [x, y, iv most] ∧ McAt H x ls m ∧ McAt H y ls n ∧ m.Canon ls.length ∧ n.Canon ls.length ∧ ls.length ≤ 100 ∧ m.mv.length ≤ 1000 ∧ n.mv.length ≤ 60 ∧ most ≤ 1000 ∧ TabsN T H ∧
  g.first = .some 0 (if m.y 0 then [0] else []) ∧ (∀ r S a, g.onw (.some r S) a = .some (m.to r a) (ss (S.map (fun t => n.to t a) ++ if m.y (m.to r a) then [0] else []))) ∧ (∀ r S, g.isY (.some r S) = S.any n.y) ∧
  (most < (g.rooms ls.length most).length → TmT E C T H 0) ∧ ((g.rooms ls.length most).length ≤ most → ∀ H' v, ExtN H H' → TabsN T H' → McAt H' v ls (g.mc ls.length (g.rooms ls.length most)).least → Q v H')
theorem ss_first (b : Bool) : ss ([] ++ if b then [0] else []) = if b then [0] else [] := by
  cases b <;> decide
theorem scBOnRoom : ∀ y, (y, NameKind.free) ∈ (C8.fnScope sBRoom).names → (y, NameKind.free) ∈ (C8.fnScope sBOn).names → False := by
  have h : ((C8.fnScope sBRoom).names.all fun y => (C8.fnScope sBOn).names.all fun z => !(decide (y.2 = .free) && decide (z.2 = .free) && decide (y.1 = z.1))) = true := by decide +kernel
  intro y h1 h2
  have := List.all_eq_true.mp (List.all_eq_true.mp h _ h1) _ h2
  simp at this
theorem ok_behind {C c P1 f fC fL fG fM : Addr} {fd fdC fdL fdG fdM : FuncData} {T : List NTab} {dvs : List V} (F : FunD K "behind_of" "behind_of" (defArgs sBehind) (defBody sBehind) (defScope sBehind) dvs [] f fd) (hc : fd.code = .ref c) (TB : TabB base mg c P1) (hm : (P1, nmB) ∈ T) (hu : ∀ p ∈ T, p.1 = P1 → p.2 = nmB)
    (GC : FnOk P w K mg base CX0 1 fC fdC ["one", "other"] spCheck) (kC : PySem.W.keepIn K (.ref fC) = true) (bC : Binds K fdC ["one", "other"] []) (gC : mg "check_letters" = some (.ref fC))
    (GL : FnOk P w K mg base CX0 3 fL fdL ["machine"] (spLeast K)) (kL : PySem.W.keepIn K (.ref fL) = true) (bL : Binds K fdL ["machine"] []) (gL : mg "least" = some (.ref fL))
    (GG : FnOk P w K mg base CX0 3 fG fdG ["first", "many", "onward", "is_yes", "most"] (spGrown P w K mg base 2)) (kG : PySem.W.keepIn K (.ref fG) = true) (bG : Binds K fdG ["first", "many", "onward", "is_yes", "most"] []) (gG : mg "grown_from" = some (.ref fG))
    (GM : FnOk P w K mg base (L2N.CX P w) 3 fM fdM ["letters", "grown"] (spMRooms C)) (kM : PySem.W.keepIn K (.ref fM) = true) (bM : Binds K fdM ["letters", "grown"] []) (gM : mg "machine_of_rooms" = some (.ref fM)) (mlen : mg "len" = none)
    (mlist : mg "list" = none) (mset : mg "set" = none) (msor : mg "sorted" = none) (mtup : mg "tuple" = none) (many : mg "any" = none) :
    FnOk P w K mg base (L2N.CX P w) 4 f fd ["one", "other", "most"] (spBehind C T) := by
  refine okDC F hc scBehind (fun vs H Q E h => ?_) (fun A outer s H vs Q E hr h => ?_)
  · obtain ⟨x, y, ls, m, n, most, g, rfl, _⟩ := h
    rfl
  · obtain ⟨x, y, ls, m, n, most, g, rfl, hx, hy, cm, cn, hk, hz, hz', hmo, hT, g0, g1, g2, qE, qT⟩ := h
    have nd := scBehind.nd
    refine ⟨_, pss_cons (ps_expr (pe_call GC (hr.mono (by decide)) (by rfl) gC kC bC .nil pass0 (pa_cons (pv 0) (pa_cons (pv 1) pa_nil))))
      (pss_cons (ps_asg (pe_call GL hr (by rfl) gL kL bL .nil pass0 (pa_cons (pv 0) pa_nil)) (pg_tup (by rfl) (pgs_cons (pg_name (i := 3) nd rfl (.inl rfl)) (pgs_cons (pg_name (i := 7) nd rfl (.inr rfl)) (pgs_cons (pg_name (i := 11) nd rfl (.inr rfl)) pgs_nil)))))
      (pss_cons (ps_asg (pe_call GL hr (by rfl) gL kL bL .nil pass0 (pa_cons (pv 1) pa_nil)) (pg_tup (by rfl) (pgs_cons (pg_name (i := 4) nd rfl (.inl rfl)) (pgs_cons (pg_name (i := 8) nd rfl (.inr rfl)) (pgs_cons (pg_name (i := 9) nd rfl (.inr rfl)) pgs_nil)))))
      (pss_cons (ps_ndefS (st := sBRoom) (i := 10) (by rfl) TB rfl hm (by rfl) hu (ndef_free (sc := defScope sBehind) (fr := ["yes"]) (by decide +kernel)) (by rfl) (by rfl) (by rfl) nd rfl (.inr rfl) (.inl rfl))
      (pss_cons (ps_ndefS (st := sBOn) (i := 5) (by rfl) TB rfl hm (by rfl) hu (ndef_free (sc := defScope sBehind) (fr := ["moves", "other_moves", "room_of"]) (by decide +kernel)) (by rfl) (by rfl) (by rfl) nd rfl (.inl rfl) (.inl rfl))
      (pss_cons (ps_ndefS (st := sBYes) (i := 6) (by rfl) TB rfl hm (by rfl) hu (ndef_free (sc := defScope sBehind) (fr := ["other_yes"]) (by decide +kernel)) (by rfl) (by rfl) (by rfl) nd rfl (.inl rfl) (.inl rfl))
      (pss_one (ps_ret (pe_call GM hr (by rfl) gM kM bM .nil (L2N.passes_call (L2N.takes_of rfl rfl rfl rfl) fun _ _ _ _ z => z) (pa_cons (pv 3) (pa_cons (pe_hold (fun _ => rfl) GG hr (by rfl) gG kG bG
        (pa_cons (pe_calln (mk := NF.of sBRoom "room_of" ((envOfC "behind_of" (defScope sBehind) s.heap.objs.size f (.ref c)).qual ++ "room_of") (cloFrom (envOfC "behind_of" (defScope sBehind) s.heap.objs.size f (.ref c)).cells (C8.fnScope sBRoom).names [])) (fr := ["yes"]) (js := [11]) (i := 10) (fun _ _ => ok_broom mlist mset msor mtup) (fun _ => rfl)
            (fun ok => Caps.made (scope := C8.fnScope sBRoom) ok (ndef_free (sc := defScope sBehind) (nsc := C8.fnScope sBRoom) (fr := ["yes"]) (by decide +kernel)) (ndef_fr (sc := defScope sBehind) (nsc := C8.fnScope sBRoom) (fr := ["yes"]) (by decide +kernel)) rfl) hr (by decide) pass0 rfl (by first | exact Or.inl rfl | exact Or.inr (Or.inl rfl)) (pa_cons pe_int (pa_cons (pe_lst pa_nil) pa_nil)))
          (pa_cons (pe_callB call_len (by rfl) mlen PySem.boot_len (pa_cons (pv 3) pa_nil)) (pa_cons (pv 5) (pa_cons (pv 6) (pa_cons (pv 2) pa_nil)))))) pa_nil)))))))))), ?_⟩
    refine ⟨x, rfl, y, rfl, x, y, ls, m, n, rfl, hx, hy, ?_⟩
    refine ⟨x, rfl, x, ls, m, ls.length, rfl, hx, cm.toValid, hk, hz, fun H1 v1 st1 hv1 => ?_⟩
    rw [Mc.least_id cm] at hv1
    obtain ⟨p1, a1, b1, rfl, hp1, ha1, hb1⟩ := hv1
    refine ⟨p1, _, rfl, SqT.of hp1, rfl, _, _, rfl, _, _, rfl, _, _, rfl, rfl, ?_⟩
    refine ⟨y, rfl, y, ls, n, ls.length, rfl, hy.tst st1.tst, cn.toValid, hk, by omega, fun H2 v2 st2 hv2 => ?_⟩
    rw [Mc.least_id cn] at hv2
    obtain ⟨p2, a2, b2, rfl, hp2, ha2, hb2⟩ := hv2
    refine ⟨p2, _, rfl, SqT.of hp2, rfl, _, _, rfl, _, _, rfl, _, _, rfl, rfl, ?_⟩
    have s02 := st1.trans st2
    have T2 : TabsN T H2 := hT.ext fun b o e => s02 b o e
    refine ⟨T2, fun fr cr H3 e3 T3 fr0 fr1 cr1 => ?_⟩
    refine ⟨T3, fun fo co H4 e4 T4 fo0 fo1 co1 => ?_⟩
    refine ⟨T4, fun fy cy H5 e5 T5 fy0 fy1 cy1 => ?_⟩
    have t05 : ExtN H H5 := (extN_same s02).trans (e3.trans (e4.trans e5))
    have fr5 := (e4.trans e5) _ _ fr1 fun ps => fnO_ne ps
    have cr5 := (e4.trans e5) _ _ cr1 codeO_ne
    have fo5 := e5 _ _ fo1 fun ps => fnO_ne ps
    have co5 := e5 _ _ co1 codeO_ne
    have x25 : Tst H2 H5 := extN_tst (e3.trans (e4.trans e5))
    have ha1' := ha1.tst (st2.tst.trans x25)
    have hb1' := hb1.tst (st2.tst.trans x25)
    have ha2' := ha2.tst x25
    have hb2' := hb2.tst x25
    -- grown_from(room_of(0, []), len(letters), onward, is_yes, most)
    refine ⟨.str ls, rfl, ?_⟩
    refine ⟨fr, cr, rfl, fr5, by show 0 ≤ sizeLine; decide, fun l6 nl6 => ?_⟩
    have s6 : Same H5 (upd H5 l6 (.lst [])) := Same.new nl6
    refine ⟨s6 _ _ fr5, s6 _ _ cr5, b1, l6, m, ls.length, 0, [], rfl, rfl, hb1'.tst s6.tst, cm.toValid, cm.pos, upd_same, by decide, fun H7 u7 s7 r7 => ?_⟩
    rw [ss_first] at r7
    have s57 := s6.trans s7
    refine ⟨.str ls, rfl, .str ls, ls.length, rfl, ⟨small' (by omega), rfl⟩, .ref fo, rfl, .ref fy, rfl, iv most, rfl, fun ob O => ?_⟩
    obtain ⟨ob1, own1, held1⟩ := held_made2 O (scope := C8.fnScope sBRoom) (fr := ["yes"]) (js := [11]) (ndef_free (sc := defScope sBehind) (fr := ["yes"]) (by decide +kernel)) (ndef_fr (sc := defScope sBehind) (fr := ["yes"]) (by decide +kernel)) rfl
    obtain ⟨ob2, own2, held2⟩ := held_made2 O (scope := C8.fnScope sBOn) (fr := ["moves", "other_moves", "room_of"]) (js := [7, 8, 10]) (ndef_free (sc := defScope sBehind) (fr := ["moves", "other_moves", "room_of"]) (by decide +kernel)) (ndef_fr (sc := defScope sBehind) (fr := ["moves", "other_moves", "room_of"]) (by decide +kernel)) rfl
    obtain ⟨ob3, own3, held3⟩ := held_made2 O (scope := C8.fnScope sBYes) (fr := ["other_yes"]) (js := [9]) (ndef_free (sc := defScope sBehind) (fr := ["other_yes"]) (by decide +kernel)) (ndef_fr (sc := defScope sBehind) (fr := ["other_yes"]) (by decide +kernel)) rfl
    have d12 : ∀ c o, ob1 c = some o → ob2 c = none := fun c o e => ob_none fun o' e' => by
      obtain ⟨y1, m1, l1⟩ := own1 c o e
      obtain ⟨y2, m2, l2⟩ := own2 c o' e'
      have ey := O.inj _ _ _ l1 l2
      subst ey
      exact scBOnRoom _ m1 m2
    have sh := hold_same O.free
    have s8 := s57.trans sh
    let ok : Rm → Prop := fun r => match r with
      | .some r S => r < m.mv.length ∧ S.Pairwise (· < ·) ∧ ∀ t ∈ S, t < n.mv.length
      | _ => False
    have short : ∀ S : List Nat, S.Pairwise (· < ·) → (∀ t ∈ S, t < n.mv.length) → S.length ≤ 60 := fun S h1 h2 => Nat.le_trans (nodup_lt_length (h1.imp fun h => Nat.ne_of_lt h) h2) hz'
    refine ⟨u7, ls.length, most, fo, fy, g, ok, false, rfl, ?_, ?_, ?_, ?_, hk, hmo, ?_, ?_, ?_, ?_⟩
    · rw [g0]
      exact r7.ts sh.tst
    · rw [g0]
      refine ⟨cm.pos, ?_, ?_⟩
      · split <;> simp
      · intro t ht
        split at ht
        · obtain rfl : t = 0 := by simpa using ht
          exact cn.pos
        · simp at ht
    · intro r h
      cases r with
      | some r s => rfl
      | one => exact h.elim
      | two => exact h.elim
    · intro r a h ha
      cases r with
      | some r S =>
        rw [g1]
        refine ⟨Mc.to_lt cm.toValid r a, ss_rise _, fun t ht => ?_⟩
        rw [mem_ss, List.mem_append] at ht
        rcases ht with ht | ht
        · obtain ⟨q, _, rfl⟩ := List.mem_map.mp ht
          exact Mc.to_lt cn.toValid q a
        · split at ht
          · obtain rfl : t = 0 := by simpa using ht
            exact cn.pos
          · simp at ht
      | one => exact h.elim
      | two => exact h.elim
    · intro H' st
      obtain ⟨S, cS, use⟩ := clo_use2 (ok_bon (P := P) (w := w) (K := K) (mg := mg) (base := base)) (s8 _ _ fo5) (s8 _ _ co5) held2 H' st
      refine ⟨S, cS, fun v r a Q' hv okr ha q => use _ (fun u H => RmAt H u (g.onw r a)) Q' (fun v H3 H4 t h => h.ts t) (fun Q2 imp => ?_) fun u H4 s4 r4 => q H4 u s4 r4⟩
      have hd2 := (held2.same st).held
      have lt := loose_tst hd2
      have tt := (s8.tst.trans st.tst).trans lt
      cases r with
      | some r js =>
        refine ⟨a1, a2, v, fr, m, n, ls.length, r, a, js, rfl, rfl, ha1'.tst tt, ha2'.tst tt, ?_, cm.toValid, cn.toValid, hv.ts lt, okr.1, okr.2.2, short js okr.2.1 okr.2.2, ha, fun H3 u s3 r3 => imp u H3 s3 (by rw [g1]; exact r3)⟩
        -- room_of, captured
        intro H9 st9
        have fr9 := loose_fn hd2 (st _ _ (s8 _ _ fr5))
        have cr9 := loose_co hd2 (st _ _ (s8 _ _ cr5))
        obtain ⟨S9, c9, use9⟩ := clo_use2 (ok_broom (P := P) (w := w) (K := K) (mg := mg) (base := base) mlist mset msor mtup) fr9 cr9 ((held1.same st).apart d12) H9 st9
        refine ⟨S9, c9, fun r9 l9 ns9 Q9 hr9 hl9 hn9 q9 => use9 _ (fun u H => RmAt H u (.some r9 (ss (ns9 ++ if m.y r9 then [0] else [])))) Q9 (fun v H3 H4 t h => h.ts t) (fun Q2 imp => ?_) fun u H4 s4 r4 => q9 H4 u s4 r4⟩
        have hd1 := (((held1.same st).apart d12).same st9).held
        have lt1 := loose_tst hd1
        exact ⟨b1, l9, m, ls.length, r9, ns9, rfl, rfl, hb1'.tst ((tt.trans st9.tst).trans lt1), cm.toValid, hr9, loose_lst hd1 hl9, hn9, fun H3 u s3 r3 => imp u H3 s3 r3⟩
      | one => exact okr.elim
      | two => exact okr.elim
    · intro H' st
      obtain ⟨S, cS, use⟩ := clo_use2 ((ok_byes (P := P) (w := w) (K := K) (mg := mg) (base := base) many).mono (k := 2) (by decide)) (s8 _ _ fy1) (s8 _ _ cy1) held3 H' st
      refine ⟨S, cS, fun v r Q' hv okr q => use _ (fun u H => u = .bl (g.isY r)) Q' (fun v H3 H4 t h => h) (fun Q2 imp => ?_) fun u H4 s4 r4 => by rw [r4]; exact q H4 s4⟩
      have hd3 := (held3.same st).held
      have lt := loose_tst hd3
      have tt := (s8.tst.trans st.tst).trans lt
      cases r with
      | some r js => exact ⟨b2, v, n, ls.length, r, js, rfl, rfl, hb2'.tst tt, cn.toValid, hv.ts lt, okr.2.2, short js okr.2.1 okr.2.2, fun H3 s3 => imp _ H3 s3 (by rw [g2])⟩
      | one => exact okr.elim
      | two => exact okr.elim
    · intro big H' st held
      have s6 : ExtN H (loose ob H') := t05.trans (extN_same (s57.trans (loose_same O.free st)))
      have T6 : TabsN T (loose ob H') := T5.ext fun b o e => (s57.trans (loose_same O.free st)) b o e
      exact ⟨ls, .non, rfl, .inl ⟨rfl, fun H7 d s7 e7 => qE big H7 d (s6.trans (extN_same s7)) (T6.ext fun b o e => s7 b o e) e7⟩⟩
    · intro few H' p a b st hp ha hb held
      have s6 : ExtN H (loose ob H') := t05.trans (extN_same (s57.trans (loose_same O.free st)))
      have T6 : TabsN T (loose ob H') := T5.ext fun b o e => (s57.trans (loose_same O.free st)) b o e
      have lt := loose_tst held
      refine ⟨ls, .ref p, rfl, .inr ⟨p, a, b, g.mc ls.length (g.rooms ls.length most), ls.length, rfl, lt _ _ hp, ha.tst lt, hb.tst lt, Gr.mc_valid few, hk, by rw [Gr.mc_len]; omega, fun H7 v s7 e7 => qT few H7 v (s6.trans (extN_same s7)) (T6.ext fun b o e => s7 b o e) e7⟩⟩
end
end Cw
set_option Elab.async false
set_option linter.all false
set_option maxRecDepth 100000
set_option maxHeartbeats 4000000
/-! plain_machine -/
namespace Cw
open PySem PySem.Spec PyProof.Rows L2 Kw NdefX LamX
/-- a row as a tuple; lsl the letters -/
def rowVs (lsl : List Nat) : Kw.Row → List V
  | .nothing => [.str "nothing"]
  | .blank => [.str "blank"]
  | .letter a => [.str "letter", .str ⟨#[lsl.getD a 0]⟩]
  | .no i => [.str "not", iv i]
  | .or i j => [.str "or", iv i, iv j]
  | .and i j => [.str "and", iv i, iv j]
  | .behind i j => [.str "behind", iv i, iv j]
def RowAt (lsl : List Nat) (H : Hp) (v : V) (row : Kw.Row) : Prop := ∃ p, v = .ref p ∧ H p = some (.tup (rowVs lsl row))
theorem RowAt.tst {lsl : List Nat} {H H' : Hp} {v : V} {row : Kw.Row} (h : RowAt lsl H v row) (s : Tst H H') : RowAt lsl H' v row := let ⟨p, e, q⟩ := h; ⟨p, e, s _ _ q⟩
theorem str_ne {a b : Str} (h : a ≠ b) : V.str a ≠ V.str b := fun e => h (V.str.inj e)
section
variable {K : PySem.W.Frag} {x : Str} {g : TG} {te : TE} {vs : List Nat} {σ : L2.St} {H1 : Hp} {D : Addr} {Qd : Hp → Prop}
/-- a list made over a text's signs -/
theorem lc_of_str (F : Nat → V → Hp → Prop) (hF : ∀ i y H H', F i y H → Tst H H' → F i y H') (hn : H1 D = none) (hz : x.cps.size ≤ sizeLine)
    (hs : ∀ i c, x.cps.toList[i]? = some c → TurnOk g te vs σ H1 D F i (.str ⟨#[c]⟩)) (hd : ∀ H ys, Same H1 H → H D = some (.lst ys) → ys.length = x.cps.size → (∀ j y, ys[j]? = some y → F j y H) → Qd H) :
    ∃ W : Nat → Nat → Hp → Prop, (∃ m, W 0 m (upd H1 D (.lst []))) ∧ ∀ i m H, W i m H →
      ((Its x).stop i H ∧ Qd H) ∨ ((Its x).go i H ∧ ∃ Nx : Hp → Prop, (∀ H', Nx H' → ∃ m', m' < m ∧ W (i + 1) m' H') ∧ ∀ y H', (Its x).yld i H y H' → g y (wipe σ vs) H' fun σ2 H2 => wipe σ2 vs = wipe σ vs ∧ tYes σ2 H2 fun b H3 =>
        if b = true then te σ2 H3 fun y H4 => ∃ acc, H4 D = some (.lst acc) ∧ acc.length < sizeLine ∧ Nx (upd H4 D (.lst (acc ++ [y]))) else Nx H3) := by
  refine ⟨fun i m H => m = x.cps.size - i ∧ i ≤ x.cps.size ∧ LcInv H1 D F i H, ⟨x.cps.size, by simp, Nat.zero_le _, Same.new hn, [], upd_same, rfl, fun j y e => by simp at e⟩, ?_⟩
  rintro i m H ⟨rfl, hi, p⟩
  by_cases hlt : i < x.cps.size
  · refine .inr ⟨hlt, LcInv H1 D F (i + 1), fun H' p' => ⟨x.cps.size - (i + 1), by omega, rfl, hlt, p'⟩, fun y H' z => ?_⟩
    obtain ⟨e, c, hc, ey⟩ := z
    subst e ey
    have hc' : x.cps.toList[i]? = some c := by rw [Array.getElem?_toList]; exact hc
    exact hs i c hc' H' _ _ p.1 fun y H4 s4 f4 => LcInv.next hF hn p s4 f4 (by omega)
  · have e : i = x.cps.size := by omega
    subst e
    obtain ⟨s, acc, e, l, f⟩ := p
    exact .inl ⟨Nat.le_refl _, hd H acc s e l f⟩
end
section
variable {P : Program} {w : World} {K : PySem.W.Frag} {mg : Str → Option Value} {base : Heap}
def spPlain : Sp := fun vs H Q _ => ∃ (ls : Str) (r : V) (row : Kw.Row) (made : List Mc), vs = [.str ls, r] ∧ RowAt ls.cps.toList H r row ∧ (row = .nothing ∨ row = .blank ∨ ∃ a, row = .letter a ∧ a < ls.length) ∧ ls.cps.toList.Nodup ∧ 0 < ls.length ∧ ls.length ≤ 100 ∧
  ∀ H' v, Same H H' → McAt H' v ls (rowM ls.length made row) → Q v H'
theorem nums_rep {ys : List V} {k n : Nat} (h : ys.length = k) (q : ∀ (j : Nat) (y : V), ys[j]? = some y → y = iv n) : ys = (List.replicate k n).map iv := by
  refine List.ext_getElem (by simp [h]) fun i h1 h2 => ?_
  rw [List.getElem_map, List.getElem_replicate]
  exact q i _ (List.getElem?_eq_getElem h1)
theorem ok_plain {f fL : Addr} {fd fdL : FuncData} (F : Fun K "plain_machine" "plain_machine" sPlain f fd) (GL : FnOk P w K mg base CX0 3 fL fdL ["machine"] (spLeast K)) (kL : PySem.W.keepIn K (.ref fL) = true) (bL : Binds K fdL ["machine"] []) (gL : mg "least" = some (.ref fL)) (mtup : mg "tuple" = none) (mint : mg "int" = none) :
    FnOk P w K mg base CX0 4 f fd ["letters", "row"] spPlain := by
  refine F.ok scPlain (fun vs H Q E h => ?_) (fun cdv A outer s H vs Q E hr h => ?_)
  · obtain ⟨ls, r, row, made, rfl, _⟩ := h
    rfl
  · obtain ⟨ls, r, row, made, rfl, ⟨p, rfl, hp⟩, hrow, hnd, hk0, hk, q⟩ := h
    have nd := scPlain.nd
    refine ⟨_, pss_cons (ps_set (i := 2) nd rfl (.inl rfl) (pe_callTy (tupOf K) (by rfl) mtup bTuple (pa_cons
        (pe_lc (own := [("sign", 6)]) (g := gName 6) (tt := tYes) rfl nd (pi_str (pv 0)) (blkOk_by (own := [("sign", 6)]) (N := nPlain) (sc := defScope sPlain) (by decide +kernel)) (fun _ _ _ _ _ => pg_name (i := 6) nd rfl (Or.inl rfl)) (fun _ _ _ _ _ => pts_nil) (fun _ _ _ _ _ => pe_int)) pa_nil)))
      (pss_cons (ps_if (pt_cmpR op_eq (pe_ix ix_tup (pv 1) pe_int (fun _ _ => rfl)) pe_str (nomark _)) (pss_one (ps_ret (pe_tup (pa_cons (pv 0) (pa_cons (pe_tup (pa_cons (pv 2) pa_nil)) (pa_cons (pe_tup (pa_cons pe_bl pa_nil)) pa_nil)))))) pss_nil)
      (pss_cons (ps_set (i := 3) nd rfl (.inl rfl) (pe_callTy (tupOf K) (by rfl) mtup bTuple (pa_cons
        (pe_lc (own := [("sign", 6)]) (g := gName 6) (tt := tYes) rfl nd (pi_str (pv 0)) (blkOk_by (own := [("sign", 6)]) (N := nPlain) (sc := defScope sPlain) (by decide +kernel)) (fun _ _ _ _ _ => pg_name (i := 6) nd rfl (Or.inl rfl)) (fun _ _ _ _ _ => pts_nil) (fun _ _ _ _ _ => pe_int)) pa_nil)))
      (pss_cons (ps_if (pt_cmpR op_eq (pe_ix ix_tup (pv 1) pe_int (fun _ _ => rfl)) pe_str (nomark _)) (pss_one (ps_ret (pe_tup (pa_cons (pv 0) (pa_cons (pe_tup (pa_cons (pv 3) (pa_cons (pv 3) pa_nil))) (pa_cons (pe_tup (pa_cons pe_bl (pa_cons pe_bl pa_nil))) pa_nil)))))) pss_nil)
      (pss_cons (ps_set (i := 4) nd rfl (.inl rfl) (pe_callTy (tupOf K) (by rfl) mtup bTuple (pa_cons
        (pe_lc (own := [("sign", 6)]) (g := gName 6) (tt := tYes) rfl nd (pi_str (pv 0)) (blkOk_by (own := [("sign", 6)]) (N := nPlain) (sc := defScope sPlain) (by decide +kernel)) (fun _ _ _ _ _ => pg_name (i := 6) nd rfl (Or.inl rfl)) (fun _ _ _ _ _ => pts_nil)
          (fun _ _ _ _ _ => pe_op op_sub pe_int (pe_callTy call_int1 (by rfl) mint bInt (pa_cons (pe_cmpR op_eq (pv 6) (pe_ix (ixT K) (pv 1) pe_int (fun _ _ => rfl)) (nomark _)) pa_nil)))) pa_nil)))
      (pss_cons (ps_set (i := 5) nd rfl (.inl rfl) (pe_callTy (tupOf K) (by rfl) mtup bTuple (pa_cons
        (pe_lc (own := [("sign", 6)]) (g := gName 6) (tt := tYes) rfl nd (pi_str (pv 0)) (blkOk_by (own := [("sign", 6)]) (N := nPlain) (sc := defScope sPlain) (by decide +kernel)) (fun _ _ _ _ _ => pg_name (i := 6) nd rfl (Or.inl rfl)) (fun _ _ _ _ _ => pts_nil) (fun _ _ _ _ _ => pe_int)) pa_nil)))
      (pss_one (ps_ret (pe_call GL hr (by rfl) gL kL bL .nil pass0 (pa_cons (pe_tup (pa_cons (pv 0) (pa_cons (pe_tup (pa_cons (pv 4) (pa_cons (pv 5) (pa_cons (pv 5) pa_nil)))) (pa_cons (pe_tup (pa_cons pe_bl (pa_cons pe_bl (pa_cons pe_bl pa_nil)))) pa_nil)))) pa_nil))))))))), ?_⟩
    have ksz : ls.cps.size = ls.length := rfl
    have bz : ls.cps.size ≤ sizeLine := small' (by omega)
    -- stay
    refine ⟨.str ls, rfl, ls, rfl, fun D1 hD1 => ?_⟩
    refine lc_of_str (fun j v _ => v = iv 0) (fun i v _ _ h _ => h) hD1 bz (fun j c hj => ?_) (fun H1 ys st1 hD1l hyl1 hys1 => ?_)
    · intro H7 R' S' st7 hR'
      exact ⟨rfl, hR' _ _ (Same.refl _) rfl⟩
    rw [nums_rep hyl1 hys1] at hD1l
    refine ⟨D1, _, rfl, .inl ⟨SqL.of hD1l, fun t1 nt1 => ?_⟩⟩
    have sA : Same H (upd H1 t1 (.tup ((List.replicate ls.cps.size 0).map iv))) := st1.trans (Same.new nt1)
    generalize hHA : upd H1 t1 (.tup ((List.replicate ls.cps.size 0).map iv)) = HA at sA
    have hA : HA t1 = some (.tup ((List.replicate ls.cps.size 0).map iv)) := by rw [← hHA]; exact upd_same
    rcases hrow with rfl | rfl | ⟨a, rfl, ha⟩
    · refine ⟨.ref p, rfl, p, _, _, _, rfl, rfl, SqT.of (sA _ _ hp), (atI_nat (j := 0) rfl), rfl, _, rfl, iteP (decide_eq_true rfl) ?_⟩
      refine ⟨.str ls, rfl, .ref t1, rfl, by show 1 ≤ sizeLine; decide, fun u1 n1 => ⟨by show 1 ≤ sizeLine; decide, fun u2 n2 => ⟨by show 3 ≤ sizeLine; decide, fun u3 n3 => ?_⟩⟩⟩
      have s2 : Same (upd HA u1 (.tup [.ref t1])) (upd (upd (upd HA u1 (.tup [.ref t1])) u2 (.tup [.bl false])) u3 (.tup [.str ls, .ref u1, .ref u2])) := (Same.new n2).trans (Same.new n3)
      have s1 : Same HA (upd HA u1 (.tup [.ref t1])) := Same.new n1
      refine q _ _ (sA.trans (s1.trans s2)) ?_
      have e : rowM ls.length made .nothing = rawM ls.length made .nothing := Mc.least_id (nothing_canon hk0)
      rw [e]
      refine ⟨u3, .ref u1, .ref u2, rfl, upd_same, ⟨u1, [.ref t1], rfl, s2 _ _ upd_same, .cons ⟨t1, rfl, (s1.trans s2) _ _ hA⟩ .nil⟩, ⟨u2, rfl, (Same.new n3) _ _ upd_same⟩⟩
    · refine ⟨.ref p, rfl, p, _, _, _, rfl, rfl, SqT.of (sA _ _ hp), (atI_nat (j := 0) rfl), rfl, _, rfl, iteN (decide_eq_false (str_ne (by decide))) ?_⟩
      refine ⟨.str ls, rfl, ls, rfl, fun D2 hD2 => ?_⟩
      refine lc_of_str (fun j v _ => v = iv 1) (fun i v _ _ h _ => h) hD2 bz (fun j c hj => ?_) (fun H2 ys st2 hD2l hyl2 hys2 => ?_)
      · intro H7 R' S' st7 hR'
        exact ⟨rfl, hR' _ _ (Same.refl _) rfl⟩
      rw [nums_rep hyl2 hys2] at hD2l
      refine ⟨D2, _, rfl, .inl ⟨SqL.of hD2l, fun t2 nt2 => ?_⟩⟩
      have sB : Same H (upd H2 t2 (.tup ((List.replicate ls.cps.size 1).map iv))) := sA.trans (st2.trans (Same.new nt2))
      generalize hHB : upd H2 t2 (.tup ((List.replicate ls.cps.size 1).map iv)) = HB at sB
      have hB : HB t2 = some (.tup ((List.replicate ls.cps.size 1).map iv)) := by rw [← hHB]; exact upd_same
      refine ⟨.ref p, rfl, p, _, _, _, rfl, rfl, SqT.of (sB _ _ hp), (atI_nat (j := 0) rfl), rfl, _, rfl, iteP (decide_eq_true rfl) ?_⟩
      refine ⟨.str ls, rfl, .ref t2, rfl, .ref t2, rfl, by show 2 ≤ sizeLine; decide, fun u1 n1 => ⟨by show 2 ≤ sizeLine; decide, fun u2 n2 => ⟨by show 3 ≤ sizeLine; decide, fun u3 n3 => ?_⟩⟩⟩
      have s2 : Same (upd HB u1 (.tup [.ref t2, .ref t2])) (upd (upd (upd HB u1 (.tup [.ref t2, .ref t2])) u2 (.tup [.bl true, .bl false])) u3 (.tup [.str ls, .ref u1, .ref u2])) := (Same.new n2).trans (Same.new n3)
      have s1 : Same HB (upd HB u1 (.tup [.ref t2, .ref t2])) := Same.new n1
      refine q _ _ (sB.trans (s1.trans s2)) ?_
      have e : rowM ls.length made .blank = rawM ls.length made .blank := Mc.least_id (blank_canon hk0)
      rw [e]
      have hB' := (s1.trans s2) _ _ hB
      exact ⟨u3, .ref u1, .ref u2, rfl, upd_same, ⟨u1, [.ref t2, .ref t2], rfl, s2 _ _ upd_same, .cons ⟨t2, rfl, hB'⟩ (.cons ⟨t2, rfl, hB'⟩ .nil)⟩, ⟨u2, rfl, (Same.new n3) _ _ upd_same⟩⟩
    · have ha' : a < ls.cps.toList.length := by rw [Array.length_toList]; exact ha
      refine ⟨.ref p, rfl, p, _, _, _, rfl, rfl, SqT.of (sA _ _ hp), (atI_nat (j := 0) rfl), rfl, _, rfl, iteN (decide_eq_false (str_ne (by decide))) ?_⟩
      refine ⟨.str ls, rfl, ls, rfl, fun D2 hD2 => ?_⟩
      refine lc_of_str (fun j v _ => v = iv 1) (fun i v _ _ h _ => h) hD2 bz (fun j c hj => ?_) (fun H2 ys st2 hD2l hyl2 hys2 => ?_)
      · intro H7 R' S' st7 hR'
        exact ⟨rfl, hR' _ _ (Same.refl _) rfl⟩
      refine ⟨D2, _, rfl, .inl ⟨SqL.of hD2l, fun t2 nt2 => ?_⟩⟩
      have sB : Same H (upd H2 t2 (.tup ys)) := sA.trans (st2.trans (Same.new nt2))
      generalize hHB : upd H2 t2 (.tup ys) = HB at sB
      refine ⟨.ref p, rfl, p, _, _, _, rfl, rfl, SqT.of (sB _ _ hp), (atI_nat (j := 0) rfl), rfl, _, rfl, iteN (decide_eq_false (str_ne (by decide))) ?_⟩
      -- on
      refine ⟨.str ls, rfl, ls, rfl, fun D3 hD3 => ?_⟩
      refine lc_of_str (fun j v _ => v = iv (if j = a then 1 else 2)) (fun i v _ _ h _ => h) hD3 bz (fun j c hj => ?_) (fun H3 ys3 st3 hD3l hyl3 hys3 => ?_)
      · intro H7 R' S' st7 hR'
        refine ⟨rfl, ?_⟩
        refine ⟨.str ⟨#[c]⟩, rfl, .ref p, rfl, p, _, _, _, rfl, rfl, SqT.of (st7 _ _ (sB _ _ hp)), (atI_nat (j := 1) rfl), rfl, .inr ⟨_, rfl, _, _, rfl, rfl, hR' _ _ (Same.refl _) ?_⟩⟩
        have ec : ls.cps.toList.getD a 0 = ls.cps.toList[a] := by rw [List.getD_eq_getElem?_getD, List.getElem?_eq_getElem ha']; rfl
        rw [ec]
        obtain ⟨hjl, ej⟩ := List.getElem?_eq_some_iff.mp hj
        show V.int (2 - (if decide (V.str ⟨#[c]⟩ = V.str ⟨#[ls.cps.toList[a]]⟩) = true then 1 else 0)) = iv (if j = a then 1 else 2)
        by_cases e : j = a
        · subst e
          rw [if_pos rfl, decide_eq_true (by rw [ej])]
          rfl
        · rw [if_neg e, decide_eq_false (fun z => e ?_)]
          · rfl
          · have z1 : c = ls.cps.toList[a] := by
              have := congrArg (fun s : Str => s.cps) (V.str.inj z)
              simpa using this
            rw [← ej] at z1
            have h1 := hnd.idxOf_getElem j hjl
            have h2 := hnd.idxOf_getElem a ha'
            rw [z1] at h1
            exact h1.symm.trans h2
      have eys3 : ys3 = ((List.range ls.length).map fun x => if x = a then 1 else 2).map iv := by
        refine List.ext_getElem (by simp [hyl3, ksz]) fun i h1 h2 => ?_
        rw [List.getElem_map, List.getElem_map, List.getElem_range]
        exact hys3 i _ (List.getElem?_eq_getElem h1)
      rw [eys3] at hD3l
      refine ⟨D3, _, rfl, .inl ⟨SqL.of hD3l, fun t3 nt3 => ?_⟩⟩
      have sC : Same H (upd H3 t3 (.tup (((List.range ls.length).map fun x => if x = a then 1 else 2).map iv))) := sB.trans (st3.trans (Same.new nt3))
      generalize hHC : upd H3 t3 (.tup (((List.range ls.length).map fun x => if x = a then 1 else 2).map iv)) = HC at sC
      have hC : HC t3 = some (.tup (((List.range ls.length).map fun x => if x = a then 1 else 2).map iv)) := by rw [← hHC]; exact upd_same
      -- lost
      refine ⟨.str ls, rfl, ls, rfl, fun D4 hD4 => ?_⟩
      refine lc_of_str (fun j v _ => v = iv 2) (fun i v _ _ h _ => h) hD4 bz (fun j c hj => ?_) (fun H4 ys4 st4 hD4l hyl4 hys4 => ?_)
      · intro H7 R' S' st7 hR'
        exact ⟨rfl, hR' _ _ (Same.refl _) rfl⟩
      rw [nums_rep hyl4 hys4] at hD4l
      refine ⟨D4, _, rfl, .inl ⟨SqL.of hD4l, fun t4 nt4 => ?_⟩⟩
      have s4 : Same HC (upd H4 t4 (.tup ((List.replicate ls.cps.size 2).map iv))) := st4.trans (Same.new nt4)
      generalize hHD : upd H4 t4 (.tup ((List.replicate ls.cps.size 2).map iv)) = HD at s4
      have hD : HD t4 = some (.tup ((List.replicate ls.cps.size 2).map iv)) := by rw [← hHD]; exact upd_same
      refine ⟨.str ls, rfl, .ref t3, rfl, .ref t4, rfl, .ref t4, rfl, by show 3 ≤ sizeLine; decide, fun u1 n1 => ⟨by show 3 ≤ sizeLine; decide, fun u2 n2 => ⟨by show 3 ≤ sizeLine; decide, fun u3 n3 => ?_⟩⟩⟩
      have s2 : Same (upd HD u1 (.tup [.ref t3, .ref t4, .ref t4])) (upd (upd (upd HD u1 (.tup [.ref t3, .ref t4, .ref t4])) u2 (.tup [.bl false, .bl true, .bl false])) u3 (.tup [.str ls, .ref u1, .ref u2])) := (Same.new n2).trans (Same.new n3)
      have s1 : Same HD (upd HD u1 (.tup [.ref t3, .ref t4, .ref t4])) := Same.new n1
      have hC' := (s4.trans (s1.trans s2)) _ _ hC
      have hD' := (s1.trans s2) _ _ hD
      refine ⟨.ref u3, ls, rawM ls.length made (.letter a), ls.length, rfl, ⟨u3, .ref u1, .ref u2, rfl, upd_same, ⟨u1, [.ref t3, .ref t4, .ref t4], rfl, s2 _ _ upd_same, .cons ⟨t3, rfl, hC'⟩ (.cons ⟨t4, rfl, hD'⟩ (.cons ⟨t4, rfl, hD'⟩ .nil))⟩, ⟨u2, rfl, (Same.new n3) _ _ upd_same⟩⟩, letter_valid, hk, by show 3 ≤ 1000; decide, fun H9 v st9 h9 => ?_⟩
      exact q H9 v (sC.trans (s4.trans (s1.trans (s2.trans st9)))) h9
end
end Cw
set_option Elab.async false
set_option linter.all false
set_option maxRecDepth 100000
set_option maxHeartbeats 4000000
/-! for i, x in enumerate(t), t a tuple. -/
namespace Cw
open PySem PySem.Spec PyProof.Rows L2 Kw
open AutoSeq1 (wpAny_loadPart')
theorem meets_enumerate_newT (l : Addr) (items : Array Value) (n : Nat) (dct : Option Addr) (sl : Array (Option Value)) :
    Meets (Builtin.«enumerate.__new__» ⟨[.type "enumerate", .ref l], []⟩) (fun _ R s => s.heap.get? l = some { cls := .type "tuple", dict := dct, data := .seq items n, slots := sl } ∧
      R (.ok (.ret (.ref (s.heap.push { cls := .type "tuple_iterator", data := .fields #[.ref l, .int 0 0] }).objs.size)))
        { s with heap := (s.heap.push { cls := .type "tuple_iterator", data := .fields #[.ref l, .int 0 0] }).push { cls := .type "enumerate", data := .fields #[.none, .bool false, .ref s.heap.objs.size, rawInt 0, .none, .none] } }) :=
  .of_wp fun prog w A R s h => by
    obtain ⟨hp, g, d, tk, os⟩ := s; obtain ⟨hl, h⟩ := h
    have hsub := sub_enumerate
    have hL : Heap.IsTuple (Shared.heap ⟨hp, g, d, tk, os⟩) l items := ⟨_, hl, rfl, n, rfl⟩
    wp_walk using wpAny_loadPart' hl
    refine wpAny_stack_any fun st => wpAny_pure ?_
    split
    · rename_i c _ _ _ _ _
      cases (c == Value.type "enumerate")
      · wp_walk using wpAny_loadPart' hl, wpAny_pyIter_tuple hL
        exact ⟨_, rfl, h⟩
      · wp_walk using wpAny_loadPart' hl, wpAny_pyIter_tuple hL
        exact ⟨_, rfl, h⟩
    · wp_walk using wpAny_loadPart' hl, wpAny_pyIter_tuple hL
      exact ⟨_, rfl, h⟩
section
variable {prog : Program} {w : World} {A : Around} {E : Value → Shared → Prop} {s : Shared}
theorem call_enumerate_tup {l : Addr} {items : Array Value} {Q : Value → Shared → Prop} (hL : s.heap.IsTuple l items)
    (h : ∀ h', IsEnum h' (s.heap.objs.size + 1) s.heap.objs.size 0 .none → h'.IsTupleIter s.heap.objs.size l 0 → h'.objs.size = s.heap.objs.size + 2 →
      (∀ b o, s.heap.get? b = some o → h'.get? b = some o) → Q (.ref (s.heap.objs.size + 1)) { s with heap := h' }) :
    wpAny (model prog w) A (call (.type "enumerate") [.ref l]) Q E s := by
  obtain ⟨⟨c, dct, dt, sl⟩, hl, hc, n, hd⟩ := hL
  replace hc : c = .type "tuple" := hc
  replace hd : dt = .seq items n := hd
  subst hc hd
  refine callType_new F.called_enumerate (by decide) (F.typeCall_enumerate_1 _) (F.newCall_enumerate_1 _) (fun obj => F.args_object_init_2 obj _) F.entry_enumerate_new
    (meets_enumerate_newT l items n dct sl) ⟨hl, ?_⟩
  have hz : (s.heap.push { cls := .type "tuple_iterator", data := .fields #[.ref l, .int 0 0] }).objs.size = s.heap.objs.size + 1 := Heap.size_push ..
  show _ ∧ _
  rw [hz]
  have he : IsEnum ((s.heap.push { cls := .type "tuple_iterator", data := .fields #[.ref l, .int 0 0] }).push
      { cls := .type "enumerate", data := .fields #[.none, .bool false, .ref s.heap.objs.size, rawInt 0, .none, .none] }) (s.heap.objs.size + 1) s.heap.objs.size 0 .none := by
    have := Heap.get?_push_size (s.heap.push { cls := .type "tuple_iterator", data := .fields #[.ref l, .int 0 0] })
      (o := { cls := .type "enumerate", data := .fields #[.none, .bool false, .ref s.heap.objs.size, rawInt 0, .none, .none] }) rfl
    rw [hz] at this; exact this
  refine ⟨⟨_, he, rfl⟩, h _ he ⟨_, Heap.get?_push_of_some _ (Heap.get?_push_size _ rfl), rfl, rfl⟩ (by rw [Heap.size_push, hz]) fun b o x => Heap.get?_push_of_some _ (Heap.get?_push_of_some _ x)⟩
theorem enum_tup_end {e it l : Addr} {i : Nat} {items : Array Value} {old : Value} {Q : Option Value → Shared → Prop} (hh : A.handled = none)
    (he : IsEnum s.heap e it i old) (hit : s.heap.IsTupleIter it l i) (hl : s.heap.IsTuple l items) (hx : items[i]? = none)
    (hQ : ∀ h', Heap.ExtBut it s.heap h' → Q none { s with heap := h' }) : wpAny (model prog w) A (pyNext (.ref e)) Q E s := by
  have hT : s.TypeIs (.ref e) "enumerate" := ⟨_, he, rfl⟩
  unfold pyNext
  refine wpAny_bind (wpAny_attempt (wpAny_callSpecial?_slot (name := Str.ofString "__next__") hT F.slot_enumerate_next
    (wpAny_call_entry F.slot_enumerate_next hT F.entry_enumerate_next ?_ (F.args_enumerate_next_1 _))))
  show wpAny _ _ (field (.ref e) 2 >>= _) _ _ _
  refine wpAny_bind (wpAny_field he rfl (x := .ref it) rfl ?_)
  refine wpAny_bind (wpAny_nextOf_tuple_end hh hit hl hx fun h' x he' hx' => ?_)
  obtain ⟨o, ho, hc⟩ := hx'
  refine wpAny_bind (wpAny_isInstance (T := "StopIteration") (b := true) ⟨o, ho, hc⟩ isSubtype_stop ?_)
  exact wpAny_pure (hQ _ he')
end
/-- the tuple at a, each item in a new pair -/
def Itet (K : PySem.W.Frag) (a : Addr) : It :=
  ⟨fun i H => ∃ (xs : List V) (x : V), SqT K H a xs ∧ xs[i]? = some x, fun i H v H' => ∃ T x, v = .ref T ∧ H T = none ∧ H' = upd H T (.tup [.int (i : Nat), x]) ∧ ∀ xs, SqT K H a xs → xs[i]? = some x, fun i H => ∃ xs : List V, SqT K H a xs ∧ xs.length ≤ i⟩
theorem turn_enumT {P : Program} {w : World} {K : PySem.W.Frag} {elts : List Expr} {kk : Nat} {tpos : Pos} (a e it : Addr) :
    Turn P w K (.Tuple elts kk tpos) (Itet K a) [e, it] e (fun i h => (∃ old, IsEnum h e it ((i : Nat) : Int) old) ∧ h.IsTupleIter it a i ∧ e ≠ it ∧ a ≠ it ∧ a ≠ e) where
  mem := by simp
  obj := fun i h st b hb => by
    obtain ⟨⟨old, he⟩, ⟨o, ho, hc, hd⟩, _⟩ := st
    have e' : b = e ∨ b = it := by simpa using hb
    rcases e' with z | z
    · rw [z]; exact ⟨_, he, fun v q => nomatch q⟩
    · rw [z]; exact ⟨o, ho, fun v q => by rw [hd] at q; cases q⟩
  keep := fun i h h' st k => by
    obtain ⟨⟨old, he⟩, ⟨o, ho, hc, hd⟩, hne⟩ := st
    exact ⟨⟨old, k e (by simp) _ he⟩, ⟨o, k it (by simp) _ ho, hc, hd⟩, hne⟩
  item := by
    intro X hP hw hK hc i pins s σ H E I hf st hg
    subst hP hw hK
    obtain ⟨⟨old, he⟩, hit, hne, hai, hae⟩ := st
    obtain ⟨xs, x, hq, hx⟩ := hg
    obtain ⟨its, rv, p, hz⟩ := I.tuple hq
    have p : s.heap.IsTuple a its.toArray := p
    obtain ⟨u, hu, ru⟩ := rv.get hx
    have hel : e < s.heap.objs.size := Heap.lt_size he
    have hil : it < s.heap.objs.size := by obtain ⟨_, q, _⟩ := hit; exact Heap.lt_size q
    have hlt : i < its.toArray.size := by
      have := (List.getElem?_eq_some_iff.mp hu).1
      simpa using this
    refine wpAny_pyNext_enum_itemD (Draws.tuple (A := X.A.in1) (show X.A.in1.handled = none from I.ok.hd hc) it a hai its.toArray) he ⟨hit, p⟩ hlt hne (by simp [hne, Ne.symm hae]) fun x' h' tk px ho st' hT hsz hk => ?_
    have ex : x' = u := by
      have px : its.toArray[i]? = some x' := px
      rw [show its.toArray[i]? = some u from by simpa using hu] at px
      exact (Option.some.inj px).symm
    subst ex
    refine ⟨_, rfl, wpAny_letOwnedTupleGo_enum (s := { s with heap := h', toks := tk + 1 }) ho fun h'' he' sb => ?_⟩
    have hT2 : h''.get? s.heap.objs.size = some { cls := .type "tuple", data := .seq #[.int i tk, x'] } := (sb.2 _ (Nat.ne_of_gt hel)).trans hT
    have new : ObjOk X.prog X.w (upd H s.heap.objs.size (.tup [.int (i : Nat), x])) h'' s.heap.objs.size (.tup [.int (i : Nat), x]) :=
      ⟨by show 2 ≤ sizeLine; decide, [.int i tk, x'], .cons ⟨_, rfl⟩ (.cons ru .nil), ⟨_, hT2, rfl, _, rfl⟩⟩
    have I1 : Inv X pins σ (upd H s.heap.objs.size (.tup [.int (i : Nat), x])) { s with heap := h'', toks := tk + 1 } :=
      I.turnedNew (ch := [e, it]) (fun b ob hb q => (sb.2 b (fun z => hb (by simp [z]))).trans (hk b ob (fun z => hb (by simp [z])) (fun z => hb (by simp [z])) q)) hf (Nat.le_refl _) new
    refine ⟨.ref s.heap.objs.size, _, I1, rfl, ⟨_, x, rfl, I.hok.fresh (Nat.le_refl _), rfl, fun ys hy => by rw [I.tuple_inj hy hq]; exact hx⟩, ⟨⟨x', ?_⟩, ?_, hne, hai, hae⟩, fun b hb => ?_⟩
    · have e1 : ((i + 1 : Nat) : Int) = (i : Int) + 1 := by omega
      rw [e1]; exact he'
    · obtain ⟨o, ho', hc', hd'⟩ := st'.1
      exact ⟨o, (sb.2 it (Ne.symm hne)).trans ho', hc', hd'⟩
    · have hb' : b < s.heap.objs.size := by
        have e' : b = e ∨ b = it := by simpa using hb
        rcases e' with z | z
        · rw [z]; exact hel
        · rw [z]; exact hil
      rw [upd_ne (Nat.ne_of_lt hb')]
      exact (hf b hb).1
  done := by
    intro X hP hw hK hc i pins s σ H E I hf st hg
    subst hP hw hK
    obtain ⟨⟨old, he⟩, hit, hne, hai, hae⟩ := st
    obtain ⟨xs, hq, hx⟩ := hg
    obtain ⟨its, rv, p, hz⟩ := I.tuple hq
    have p : s.heap.IsTuple a its.toArray := p
    obtain ⟨f0, f1, f2, f3, f4, f5⟩ := hf it (by simp)
    have hl := rv.length
    exact enum_tup_end (I.ok.hd hc) he hit p (by simp; omega) fun h' eb => ⟨rfl, I.turned (t' := s.toks) (fun b o hb q => eb b o hb q) f0 f1 f3 f4 f5⟩
  self := fun A i s Q E st h => let ⟨⟨_, he⟩, _⟩ := st; wpAny_pyIter_enum he h
def iEnumT (K : PySem.W.Frag) (ta : TA) : TI := fun σ H R => ta σ H fun vs H1 => ∃ a xs, vs = [.ref a] ∧ SqT K H1 a xs ∧ R (Itet K a) H1
theorem pi_enumT {X : Cx} {e : Expr} {ta : TA} {p pos tpos : Pos} {elts : List Expr} {kk : Nat} (hg : Gl X "enumerate") (hm : X.mg "enumerate" = none) (ha : PA X [e] ta) (hs : starEach [e] X.env = [(false, eval e X.env)] := by rfl) :
    PI X (.Tuple elts kk tpos) (.Call (.Name "enumerate" p) [e] [] pos) (iEnumT X.K ta) := by
  refine ⟨fun pins s σ H R I h => ?_⟩
  refine Call_ (ld_blt I hg hm boot_enumerate (PyProof.Rows.callWith_type1 (thn (ha.run pos pins s σ H _ I h) fun us s1 ⟨vs, H1, I1, r1, q1⟩ => ?_) hs rfl))
  obtain ⟨a, xs, ex, hq, q⟩ := q1
  subst ex
  cases r1 with
  | cons r rr =>
    cases rr
    cases r
    obtain ⟨its, rv, p', hz⟩ := I1.tuple hq
    have p' : s1.heap.IsTuple a its.toArray := p'
    have hal : a < s1.heap.objs.size := by obtain ⟨_, q, _⟩ := p'; exact Heap.lt_size q
    refine call_enumerate_tup p' fun h' he hit hsz hk => wpAny_pyIter_enum he ?_
    have I2 : Inv X pins σ H1 { s1 with heap := h' } := I1.kept (t' := s1.toks) hk
    refine ⟨s1.heap.objs.size + 1, [s1.heap.objs.size + 1, s1.heap.objs.size], _, _, H1, rfl, I2, turn_enumT a (s1.heap.objs.size + 1) s1.heap.objs.size, ⟨⟨.none, he⟩, hit, Nat.succ_ne_self _, Nat.ne_of_lt hal, Nat.ne_of_lt (Nat.lt_succ_of_lt hal)⟩, fun b hb => ?_, q⟩
    have e' : b = s1.heap.objs.size + 1 ∨ b = s1.heap.objs.size := by simpa using hb
    have hle : s1.heap.objs.size ≤ b := by
      rcases e' with z | z
      · rw [z]; exact Nat.le_add_right _ _
      · rw [z]; exact Nat.le_refl _
    exact I1.fpOk hle (I1.hok.fresh hle)
/-- the loop over such a walk, an invariant told -/
theorem for_enumT {K : PySem.W.Frag} {a : Addr} {xs : List V} {g : TG} {tb : L2.TS} {D : Ends} {σ : L2.St} {H : Hp} (Pv : Nat → L2.St → Hp → Prop) (h0 : Pv 0 σ H) (hl : ∀ i σ H, i ≤ xs.length → Pv i σ H → SqT K H a xs)
    (hs : ∀ i v σ H T, xs[i]? = some v → Pv i σ H → H T = none → g (.ref T) σ (upd H T (.tup [iv i, v])) fun σ2 H2 => tb { D with nx := Pv (i + 1), ct := Pv (i + 1), bk := D.nx } σ2 H2) (hd : ∀ σ H, Pv xs.length σ H → D.nx σ H) :
    ∃ W : Nat → Nat → L2.St → Hp → Prop, (∃ m, W 0 m σ H) ∧ ∀ i m σ H, W i m σ H →
      ((Itet K a).stop i H ∧ D.nx σ H) ∨ ((Itet K a).go i H ∧ ∃ N : L2.St → Hp → Prop, (∀ σ' H', N σ' H' → ∃ m', m' < m ∧ W (i + 1) m' σ' H') ∧ ∀ x H', (Itet K a).yld i H x H' → g x σ H' fun σ2 H2 => tb { D with nx := N, ct := N, bk := D.nx } σ2 H2) := by
  refine ⟨fun i m σ H => m = xs.length - i ∧ i ≤ xs.length ∧ Pv i σ H, ⟨xs.length, by simp, Nat.zero_le _, h0⟩, ?_⟩
  rintro i m σ H ⟨rfl, hi, p⟩
  by_cases hlt : i < xs.length
  · refine .inr ⟨⟨xs, xs[i], hl i σ H hi p, List.getElem?_eq_getElem hlt⟩, Pv (i + 1), fun σ' H' p' => ⟨xs.length - (i + 1), by omega, rfl, hlt, p'⟩, fun y H' z => ?_⟩
    obtain ⟨T, x, ey, nT, eH, hx⟩ := z
    subst ey eH
    exact hs i x σ H T (hx xs (hl i σ H hi p)) p nT
  · have e : i = xs.length := by omega
    subst e
    exact .inl ⟨⟨xs, hl _ σ H (Nat.le_refl _) p, Nat.le_refl _⟩, hd σ H p⟩
end Cw
set_option Elab.async false
set_option linter.all false
set_option maxRecDepth 100000
set_option maxHeartbeats 4000000
/-! both_of, either_of, row_machine -/
namespace Cw
open PySem PySem.Spec PyProof.Rows L2 Kw NdefX LamX
section
variable {P : Program} {w : World} {K : PySem.W.Frag} {mg : Str → Option Value} {base : Heap}
def spJoint (C : Addr) (T : List NTab) (e : Bool) : Sp := fun vs H Q E => ∃ (x y : V) (most : Nat), vs = [x, y, iv most] ∧ spPaired C T [x, y, iv most, .bl e] H Q E
theorem ok_both {C f fP : Addr} {fd fdP : FuncData} {T : List NTab} {dvs : List V} (F : FunD K "both_of" "both_of" (defArgs sBoth) (defBody sBoth) (defScope sBoth) dvs [] f fd)
    (GP : FnOk P w K mg base (L2N.CX P w) 4 fP fdP ["one", "other", "most", "is_either"] (spPaired C T)) (kP : PySem.W.keepIn K (.ref fP) = true) (bP : Binds K fdP ["one", "other", "most", "is_either"] []) (gP : mg "paired" = some (.ref fP)) :
    FnOk P w K mg base (L2N.CX P w) 5 f fd ["one", "other", "most"] (spJoint C T false) := by
  refine F.ok scBoth (fun vs H Q E h => ?_) (fun cdv A outer s H vs Q E hr h => ?_)
  · obtain ⟨x, y, most, rfl, _⟩ := h
    rfl
  · obtain ⟨x, y, most, rfl, h⟩ := h
    exact ⟨_, pss_one (ps_ret (pe_call GP hr (by rfl) gP kP bP .nil (L2N.passes_call (L2N.takes_of rfl rfl rfl rfl) fun _ _ _ _ z => z) (pa_cons (pv 0) (pa_cons (pv 1) (pa_cons (pv 2) (pa_cons pe_bl pa_nil)))))), x, rfl, y, rfl, iv most, rfl, h⟩
theorem ok_either {C f fP : Addr} {fd fdP : FuncData} {T : List NTab} {dvs : List V} (F : FunD K "either_of" "either_of" (defArgs sEither) (defBody sEither) (defScope sEither) dvs [] f fd)
    (GP : FnOk P w K mg base (L2N.CX P w) 4 fP fdP ["one", "other", "most", "is_either"] (spPaired C T)) (kP : PySem.W.keepIn K (.ref fP) = true) (bP : Binds K fdP ["one", "other", "most", "is_either"] []) (gP : mg "paired" = some (.ref fP)) :
    FnOk P w K mg base (L2N.CX P w) 5 f fd ["one", "other", "most"] (spJoint C T true) := by
  refine F.ok scEither (fun vs H Q E h => ?_) (fun cdv A outer s H vs Q E hr h => ?_)
  · obtain ⟨x, y, most, rfl, _⟩ := h
    rfl
  · obtain ⟨x, y, most, rfl, h⟩ := h
    exact ⟨_, pss_one (ps_ret (pe_call GP hr (by rfl) gP kP bP .nil (L2N.passes_call (L2N.takes_of rfl rfl rfl rfl) fun _ _ _ _ z => z) (pa_cons (pv 0) (pa_cons (pv 1) (pa_cons (pv 2) (pa_cons pe_bl pa_nil)))))), x, rfl, y, rfl, iv most, rfl, h⟩
/-- machines in a list -/
def MadeAt (H : Hp) (vs : List V) (ls : Str) (made : List Mc) : Prop := Paired (fun v m => McAt H v ls m) vs made
theorem MadeAt.tst {H H' : Hp} {vs : List V} {ls : Str} {made : List Mc} (h : MadeAt H vs ls made) (s : Tst H H') : MadeAt H' vs ls made := Paired.mapP h fun _ _ z => z.tst s
theorem MadeAt.at_ {H : Hp} {vs : List V} {ls : Str} {made : List Mc} {i : Nat} (h : MadeAt H vs ls made) (hi : i < made.length) : ∃ v, vs[i]? = some v ∧ McAt H v ls (Kw.part made i) := by
  obtain ⟨v, e, q⟩ := paired_get h i made[i] (List.getElem?_eq_getElem hi)
  refine ⟨v, e, ?_⟩
  have : Kw.part made i = made[i] := by
    unfold Kw.part
    rw [List.getD_eq_getElem?_getD, List.getElem?_eq_getElem hi]
    rfl
  rw [this]
  exact q
/-- what row_machine needs of its defs -/
structure RowDefs (P : Program) (w : World) (K : PySem.W.Frag) (mg : Str → Option Value) (base : Heap) (C : Addr) (T : List NTab) (fN fE fB fH fL : Addr) (fdN fdE fdB fdH fdL : FuncData) : Prop where
  oN : FnOk P w K mg base CX0 4 fN fdN ["machine"] spNo
  oE : FnOk P w K mg base (L2N.CX P w) 5 fE fdE ["one", "other", "most"] (spJoint C T true)
  oB : FnOk P w K mg base (L2N.CX P w) 5 fB fdB ["one", "other", "most"] (spJoint C T false)
  oH : FnOk P w K mg base (L2N.CX P w) 4 fH fdH ["one", "other", "most"] (spBehind C T)
  oL : FnOk P w K mg base CX0 4 fL fdL ["letters", "row"] spPlain
  kN : PySem.W.keepIn K (.ref fN) = true
  kE : PySem.W.keepIn K (.ref fE) = true
  kB : PySem.W.keepIn K (.ref fB) = true
  kH : PySem.W.keepIn K (.ref fH) = true
  kL : PySem.W.keepIn K (.ref fL) = true
  bN : Binds K fdN ["machine"] []
  bE : Binds K fdE ["one", "other", "most"] []
  bB : Binds K fdB ["one", "other", "most"] []
  bH : Binds K fdH ["one", "other", "most"] []
  bL : Binds K fdL ["letters", "row"] []
  gN : mg "no_of" = some (.ref fN)
  gE : mg "either_of" = some (.ref fE)
  gB : mg "both_of" = some (.ref fB)
  gH : mg "behind_of" = some (.ref fH)
  gL : mg "plain_machine" = some (.ref fL)
def spRowM (C : Addr) (T : List NTab) : Sp := fun vs H Q E => ∃ (ls : Str) (r : V) (l : Addr) (vm : List V) (made : List Mc) (most : Nat) (row : Kw.Row), vs = [.str ls, r, .ref l, iv most] ∧ RowAt ls.cps.toList H r row ∧ H l = some (.lst vm) ∧ MadeAt H vm ls made ∧
  row.fits ls.length made.length ∧ Kw.Parts ls.length 60 made ∧ ls.cps.toList.Nodup ∧ 0 < ls.length ∧ ls.length ≤ 100 ∧ most ≤ 400 ∧ TabsN T H ∧
  (over ls.length made most row = true → TmT E C T H 0) ∧ (over ls.length made most row = false → ∀ H' v, ExtN H H' → TabsN T H' → McAt H' v ls (rowM ls.length made row) → Q v H')
theorem rooms_far {k most : Nat} {made : List Mc} {row : Kw.Row} (hm : most ≤ 400) (h : ((gr made row).rooms k most).length ≤ most) : (gr made row).rooms k far = (gr made row).rooms k most := rooms_stop h (by unfold far; omega)
theorem ok_rowm {C f fN fE fB fH fL : Addr} {fd fdN fdE fdB fdH fdL : FuncData} {T : List NTab} (F : Fun K "row_machine" "row_machine" sRowM f fd) (G : RowDefs P w K mg base C T fN fE fB fH fL fdN fdE fdB fdH fdL) :
    FnOk P w K mg base (L2N.CX P w) 6 f fd ["letters", "row", "made", "most"] (spRowM C T) := by
  refine okN F scRowM (fun vs H Q E h => ?_) (fun cdv A outer s H vs Q E hr h => ?_)
  · obtain ⟨ls, r, l, vm, made, most, row, rfl, _⟩ := h
    rfl
  · obtain ⟨ls, r, l, vm, made, most, row, rfl, ⟨p, rfl, hp⟩, hl, hmd, hf, hpt, hnd, hk0, hk, hmo, hT, qE, qT⟩ := h
    have nd := scRowM.nd
    have ps := L2N.passes_call (X := cxOf (L2N.CX P w) P w K mg base nRowM "row_machine" (defScope sRowM) f cdv A outer s H E) (E := E) (L2N.takes_of rfl rfl rfl rfl) fun _ _ _ _ z => z
    refine ⟨_, pss_cons (ps_if (pt_cmpR op_eq (pe_ix ix_tup (pv 1) pe_int (fun _ _ => rfl)) pe_str (nomark _)) (pss_one (ps_ret (pe_call G.oN (hr.mono (by decide)) (by rfl) G.gN G.kN G.bN .nil pass0 (pa_cons (pe_ix ix_list (pv 2) (pe_ix ix_tup (pv 1) pe_int (fun _ _ => rfl)) (fun _ _ => rfl)) pa_nil)))) pss_nil)
      (pss_cons (ps_if (pt_cmpR op_eq (pe_ix ix_tup (pv 1) pe_int (fun _ _ => rfl)) pe_str (nomark _)) (pss_one (ps_ret (pe_call G.oE hr (by rfl) G.gE G.kE G.bE .nil ps (pa_cons (pe_ix ix_list (pv 2) (pe_ix ix_tup (pv 1) pe_int (fun _ _ => rfl)) (fun _ _ => rfl)) (pa_cons (pe_ix ix_list (pv 2) (pe_ix ix_tup (pv 1) pe_int (fun _ _ => rfl)) (fun _ _ => rfl)) (pa_cons (pv 3) pa_nil)))))) pss_nil)
      (pss_cons (ps_if (pt_cmpR op_eq (pe_ix ix_tup (pv 1) pe_int (fun _ _ => rfl)) pe_str (nomark _)) (pss_one (ps_ret (pe_call G.oB hr (by rfl) G.gB G.kB G.bB .nil ps (pa_cons (pe_ix ix_list (pv 2) (pe_ix ix_tup (pv 1) pe_int (fun _ _ => rfl)) (fun _ _ => rfl)) (pa_cons (pe_ix ix_list (pv 2) (pe_ix ix_tup (pv 1) pe_int (fun _ _ => rfl)) (fun _ _ => rfl)) (pa_cons (pv 3) pa_nil)))))) pss_nil)
      (pss_cons (ps_if (pt_cmpR op_eq (pe_ix ix_tup (pv 1) pe_int (fun _ _ => rfl)) pe_str (nomark _)) (pss_one (ps_ret (pe_call G.oH (hr.mono (by decide)) (by rfl) G.gH G.kH G.bH .nil ps (pa_cons (pe_ix ix_list (pv 2) (pe_ix ix_tup (pv 1) pe_int (fun _ _ => rfl)) (fun _ _ => rfl)) (pa_cons (pe_ix ix_list (pv 2) (pe_ix ix_tup (pv 1) pe_int (fun _ _ => rfl)) (fun _ _ => rfl)) (pa_cons (pv 3) pa_nil)))))) pss_nil)
      (pss_one (ps_ret (pe_call G.oL (hr.mono (by decide)) (by rfl) G.gL G.kL G.bL .nil pass0 (pa_cons (pv 0) (pa_cons (pv 1) pa_nil)))))))), ?_⟩
    have hp' := hp
    have plain : over ls.length made most row = false → (row = .nothing ∨ row = .blank ∨ ∃ a, row = .letter a ∧ a < ls.length) → spPlain [.str ls, .ref p] H Q E0 := fun ho hw => ⟨ls, .ref p, row, made, rfl, ⟨p, rfl, hp⟩, hw, hnd, hk0, hk, fun H' v st hv => qT ho H' v (extN_same st) (hT.ext fun b o e => st b o e) hv⟩
    cases row with
    | no i =>
      refine ⟨.ref p, rfl, p, _, _, _, rfl, rfl, SqT.of hp, (atI_nat (j := 0) rfl), rfl, _, rfl, iteP (decide_eq_true rfl) ?_⟩
      obtain ⟨v, ev, hv⟩ := hmd.at_ hf
      have cm := (hpt.at hf).1
      refine ⟨.ref l, rfl, .ref p, rfl, p, _, _, _, rfl, rfl, SqT.of hp, (atI_nat (j := 1) rfl), l, _, _, _, rfl, rfl, SqL.of hl, atI_nat ev, ?_⟩
      refine ⟨v, ls, Kw.part made i, ls.length, rfl, hv, cm.toValid, hk, by have := (hpt.at hf).2; omega, fun H' u st hu => ?_⟩
      refine qT rfl H' u (extN_same st) (hT.ext fun b o e => st b o e) ?_
      have e : rowM ls.length made (.no i) = ⟨(Kw.part made i).least.mv, (Kw.part made i).least.ys.map (!·)⟩ := by
        rw [Mc.least_id cm]
        exact Mc.least_id (not_canon cm)
      rw [e]
      exact hu
    | or i j =>
      refine ⟨.ref p, rfl, p, _, _, _, rfl, rfl, SqT.of hp, (atI_nat (j := 0) rfl), rfl, _, rfl, iteN (decide_eq_false (str_ne (by decide))) ?_⟩
      refine ⟨.ref p, rfl, p, _, _, _, rfl, rfl, SqT.of hp, (atI_nat (j := 0) rfl), rfl, _, rfl, iteP (decide_eq_true rfl) ?_⟩
      obtain ⟨v, ev, hv⟩ := hmd.at_ hf.1
      obtain ⟨u, eu, hu⟩ := hmd.at_ hf.2
      have cm := (hpt.at hf.1)
      have cn := (hpt.at hf.2)
      refine ⟨.ref l, rfl, .ref p, rfl, p, _, _, _, rfl, rfl, SqT.of hp, (atI_nat (j := 1) rfl), l, _, _, _, rfl, rfl, SqL.of hl, atI_nat ev, .ref l, rfl, .ref p, rfl, p, _, _, _, rfl, rfl, SqT.of hp, (atI_nat (j := 2) rfl), l, _, _, _, rfl, rfl, SqL.of hl, atI_nat eu, iv most, rfl, ?_⟩
      refine ⟨v, u, most, rfl, v, u, ls, Kw.part made i, Kw.part made j, most, true, gr made (.or i j), rfl, hv, hu, cm.1, cn.1, hk, by omega, by omega, by omega, hT, rfl, fun _ _ _ => rfl, fun _ _ => rfl, fun big => qE ?_, fun few => ?_⟩
      · show (true && decide (most < ((gr made (.or i j)).rooms ls.length most).length)) = true
        rw [Bool.true_and]
        exact decide_eq_true big
      · have ho : over ls.length made most (.or i j) = false := by
          show (true && decide (most < ((gr made (.or i j)).rooms ls.length most).length)) = false
          rw [Bool.true_and]
          exact decide_eq_false (by omega)
        have er := rooms_far hmo few
        intro H' z hx T' hz
        refine qT ho H' z hx T' ?_
        show McAt H' z ls ((gr made (.or i j)).mc ls.length ((gr made (.or i j)).rooms ls.length far)).least
        rw [er]
        exact hz
    | and i j =>
      refine ⟨.ref p, rfl, p, _, _, _, rfl, rfl, SqT.of hp, (atI_nat (j := 0) rfl), rfl, _, rfl, iteN (decide_eq_false (str_ne (by decide))) ?_⟩
      refine ⟨.ref p, rfl, p, _, _, _, rfl, rfl, SqT.of hp, (atI_nat (j := 0) rfl), rfl, _, rfl, iteN (decide_eq_false (str_ne (by decide))) ?_⟩
      refine ⟨.ref p, rfl, p, _, _, _, rfl, rfl, SqT.of hp, (atI_nat (j := 0) rfl), rfl, _, rfl, iteP (decide_eq_true rfl) ?_⟩
      obtain ⟨v, ev, hv⟩ := hmd.at_ hf.1
      obtain ⟨u, eu, hu⟩ := hmd.at_ hf.2
      have cm := (hpt.at hf.1)
      have cn := (hpt.at hf.2)
      refine ⟨.ref l, rfl, .ref p, rfl, p, _, _, _, rfl, rfl, SqT.of hp, (atI_nat (j := 1) rfl), l, _, _, _, rfl, rfl, SqL.of hl, atI_nat ev, .ref l, rfl, .ref p, rfl, p, _, _, _, rfl, rfl, SqT.of hp, (atI_nat (j := 2) rfl), l, _, _, _, rfl, rfl, SqL.of hl, atI_nat eu, iv most, rfl, ?_⟩
      refine ⟨v, u, most, rfl, v, u, ls, Kw.part made i, Kw.part made j, most, false, gr made (.and i j), rfl, hv, hu, cm.1, cn.1, hk, by omega, by omega, by omega, hT, rfl, fun _ _ _ => rfl, fun _ _ => rfl, fun big => qE ?_, fun few => ?_⟩
      · show (true && decide (most < ((gr made (.and i j)).rooms ls.length most).length)) = true
        rw [Bool.true_and]
        exact decide_eq_true big
      · have ho : over ls.length made most (.and i j) = false := by
          show (true && decide (most < ((gr made (.and i j)).rooms ls.length most).length)) = false
          rw [Bool.true_and]
          exact decide_eq_false (by omega)
        have er := rooms_far hmo few
        intro H' z hx T' hz
        refine qT ho H' z hx T' ?_
        show McAt H' z ls ((gr made (.and i j)).mc ls.length ((gr made (.and i j)).rooms ls.length far)).least
        rw [er]
        exact hz
    | behind i j =>
      refine ⟨.ref p, rfl, p, _, _, _, rfl, rfl, SqT.of hp, (atI_nat (j := 0) rfl), rfl, _, rfl, iteN (decide_eq_false (str_ne (by decide))) ?_⟩
      refine ⟨.ref p, rfl, p, _, _, _, rfl, rfl, SqT.of hp, (atI_nat (j := 0) rfl), rfl, _, rfl, iteN (decide_eq_false (str_ne (by decide))) ?_⟩
      refine ⟨.ref p, rfl, p, _, _, _, rfl, rfl, SqT.of hp, (atI_nat (j := 0) rfl), rfl, _, rfl, iteN (decide_eq_false (str_ne (by decide))) ?_⟩
      refine ⟨.ref p, rfl, p, _, _, _, rfl, rfl, SqT.of hp, (atI_nat (j := 0) rfl), rfl, _, rfl, iteP (decide_eq_true rfl) ?_⟩
      obtain ⟨v, ev, hv⟩ := hmd.at_ hf.1
      obtain ⟨u, eu, hu⟩ := hmd.at_ hf.2
      have cm := (hpt.at hf.1)
      have cn := (hpt.at hf.2)
      refine ⟨.ref l, rfl, .ref p, rfl, p, _, _, _, rfl, rfl, SqT.of hp, (atI_nat (j := 1) rfl), l, _, _, _, rfl, rfl, SqL.of hl, atI_nat ev, .ref l, rfl, .ref p, rfl, p, _, _, _, rfl, rfl, SqT.of hp, (atI_nat (j := 2) rfl), l, _, _, _, rfl, rfl, SqL.of hl, atI_nat eu, iv most, rfl, ?_⟩
      refine ⟨v, u, ls, Kw.part made i, Kw.part made j, most, gr made (.behind i j), rfl, hv, hu, cm.1, cn.1, hk, by omega, by omega, by omega, hT, rfl, fun _ _ _ => rfl, fun _ _ => rfl, fun big => qE ?_, fun few => ?_⟩
      · show (true && decide (most < ((gr made (.behind i j)).rooms ls.length most).length)) = true
        rw [Bool.true_and]
        exact decide_eq_true big
      · have ho : over ls.length made most (.behind i j) = false := by
          show (true && decide (most < ((gr made (.behind i j)).rooms ls.length most).length)) = false
          rw [Bool.true_and]
          exact decide_eq_false (by omega)
        have er := rooms_far hmo few
        intro H' z hx T' hz
        refine qT ho H' z hx T' ?_
        show McAt H' z ls ((gr made (.behind i j)).mc ls.length ((gr made (.behind i j)).rooms ls.length far)).least
        rw [er]
        exact hz
    | nothing =>
      refine ⟨.ref p, rfl, p, _, _, _, rfl, rfl, SqT.of hp, (atI_nat (j := 0) rfl), rfl, _, rfl, iteN (decide_eq_false (str_ne (by decide))) ?_⟩
      refine ⟨.ref p, rfl, p, _, _, _, rfl, rfl, SqT.of hp, (atI_nat (j := 0) rfl), rfl, _, rfl, iteN (decide_eq_false (str_ne (by decide))) ?_⟩
      refine ⟨.ref p, rfl, p, _, _, _, rfl, rfl, SqT.of hp, (atI_nat (j := 0) rfl), rfl, _, rfl, iteN (decide_eq_false (str_ne (by decide))) ?_⟩
      refine ⟨.ref p, rfl, p, _, _, _, rfl, rfl, SqT.of hp, (atI_nat (j := 0) rfl), rfl, _, rfl, iteN (decide_eq_false (str_ne (by decide))) ?_⟩
      exact ⟨.str ls, rfl, .ref p, rfl, plain rfl (.inl rfl)⟩
    | blank =>
      refine ⟨.ref p, rfl, p, _, _, _, rfl, rfl, SqT.of hp, (atI_nat (j := 0) rfl), rfl, _, rfl, iteN (decide_eq_false (str_ne (by decide))) ?_⟩
      refine ⟨.ref p, rfl, p, _, _, _, rfl, rfl, SqT.of hp, (atI_nat (j := 0) rfl), rfl, _, rfl, iteN (decide_eq_false (str_ne (by decide))) ?_⟩
      refine ⟨.ref p, rfl, p, _, _, _, rfl, rfl, SqT.of hp, (atI_nat (j := 0) rfl), rfl, _, rfl, iteN (decide_eq_false (str_ne (by decide))) ?_⟩
      refine ⟨.ref p, rfl, p, _, _, _, rfl, rfl, SqT.of hp, (atI_nat (j := 0) rfl), rfl, _, rfl, iteN (decide_eq_false (str_ne (by decide))) ?_⟩
      exact ⟨.str ls, rfl, .ref p, rfl, plain rfl (.inr (.inl rfl))⟩
    | letter a =>
      refine ⟨.ref p, rfl, p, _, _, _, rfl, rfl, SqT.of hp, (atI_nat (j := 0) rfl), rfl, _, rfl, iteN (decide_eq_false (str_ne (by decide))) ?_⟩
      refine ⟨.ref p, rfl, p, _, _, _, rfl, rfl, SqT.of hp, (atI_nat (j := 0) rfl), rfl, _, rfl, iteN (decide_eq_false (str_ne (by decide))) ?_⟩
      refine ⟨.ref p, rfl, p, _, _, _, rfl, rfl, SqT.of hp, (atI_nat (j := 0) rfl), rfl, _, rfl, iteN (decide_eq_false (str_ne (by decide))) ?_⟩
      refine ⟨.ref p, rfl, p, _, _, _, rfl, rfl, SqT.of hp, (atI_nat (j := 0) rfl), rfl, _, rfl, iteN (decide_eq_false (str_ne (by decide))) ?_⟩
      exact ⟨.str ls, rfl, .ref p, rfl, plain rfl (.inr (.inr ⟨a, rfl, hf⟩))⟩
end
end Cw
set_option Elab.async false
set_option linter.all false
set_option maxRecDepth 100000
set_option maxHeartbeats 4000000
/-! machine_of -/
namespace Cw
open PySem PySem.Spec PyProof.Rows L2 Kw NdefX LamX
theorem codeO_lst {c : Addr} {q : Str} {xs : List V} : CodeO c q ≠ .lst xs := fun z => by
  unfold CodeO at z
  cases z
theorem tabs_upd {T : List NTab} {H : Hp} {l : Addr} {xs : List V} {u : HO} (t : TabsN T H) (h : H l = some (.lst xs)) : TabsN T (upd H l u) := fun p hp => by
  obtain ⟨ps, h1, h2, h3⟩ := t p hp
  refine ⟨ps, ?_, h2, fun pos cv hc => ?_⟩
  · rw [upd_ne fun e => by rw [e, h] at h1; cases h1]
    exact h1
  · obtain ⟨c, e1, e2⟩ := h3 pos cv hc
    refine ⟨c, e1, ?_⟩
    rw [upd_ne fun e => by
      rw [e, h] at e2
      exact codeO_lst (Option.some.inj e2).symm]
    exact e2
theorem extN_upd {H H' : Hp} {l : Addr} {u : HO} (e : ExtN H H') (n : H l = none) : ExtN H (upd H' l u) := fun b o h q => by
  rw [upd_ne (ne_of_none h n)]
  exact e b o h q
theorem atI_last {α : Type} {xs : List α} {v : α} (h : xs[xs.length - 1]? = some v) : atI xs (-1) = some v := by
  have hl := (List.getElem?_eq_some_iff.mp h).1
  have e : ixN xs.length (-1) = some (xs.length - 1) := by
    unfold ixN
    rw [if_neg (by omega), if_pos (by omega)]
    congr 1
    omega
  unfold atI
  rw [e]
  exact h
section
variable {P : Program} {w : World} {K : PySem.W.Frag} {mg : Str → Option Value} {base : Heap}
def RowsAt (lsl : List Nat) (H : Hp) (v : V) (rows : List Kw.Row) : Prop := ∃ p vr, v = .ref p ∧ H p = some (.tup vr) ∧ Paired (RowAt lsl H) vr rows
theorem RowsAt.tst {lsl : List Nat} {H H' : Hp} {v : V} {rows : List Kw.Row} (h : RowsAt lsl H v rows) (s : Tst H H') : RowsAt lsl H' v rows := let ⟨p, vr, e, q, r⟩ := h; ⟨p, vr, e, s _ _ q, Paired.mapP r fun _ _ z => z.tst s⟩
def spMOf (C : Addr) (T : List NTab) : Sp := fun vs H Q E => ∃ (ls : Str) (x : V) (most : Nat) (rows : List Kw.Row), vs = [.str ls, x, iv most] ∧ RowsAt ls.cps.toList H x rows ∧ Fits ls.length 0 rows ∧ rows ≠ [] ∧ rows.length ≤ 1000 ∧
  (∀ i ms, build ls.length most [] (rows.take i) = .ok ms → Kw.Parts ls.length 60 ms) ∧ ls.cps.toList.Nodup ∧ 0 < ls.length ∧ ls.length ≤ 100 ∧ most ≤ 400 ∧ TabsN T H ∧
  (∀ n, build ls.length most [] rows = .error n → TmT E C T H n) ∧ (∀ ms, build ls.length most [] rows = .ok ms → ∀ H' v, ExtN H H' → TabsN T H' → McAt H' v ls (Kw.part ms (rows.length - 1)) → Q v H')
theorem ok_mof {B C fI f fR : Addr} {fd fdI fdR : FuncData} {T : List NTab} {dvs : List V} (F : FunD K "machine_of" "machine_of" (defArgs sMOf) (defBody sMOf) (defScope sMOf) dvs [] f fd) (t : TmTxt K mg B C fI) (GI : L2H.FnH P w K mg base CX0 1 fI fdI ["self", "at"] (spTm C)) (bI : Binds K fdI ["self", "at"] [])
    (GR : FnOk P w K mg base (L2N.CX P w) 6 fR fdR ["letters", "row", "made", "most"] (spRowM C T)) (kR : PySem.W.keepIn K (.ref fR) = true) (bR : Binds K fdR ["letters", "row", "made", "most"] []) (gR : mg "row_machine" = some (.ref fR)) (menum : mg "enumerate" = none) :
    FnOk P w K mg base (L2.CX P w) 7 f fd ["letters", "expression", "most"] (spMOf C T) := by
  refine F.ok scMOf (fun vs H Q E h => ?_) (fun cdv A outer s H vs Q E hr h => ?_)
  · obtain ⟨ls, x, most, rows, rfl, _⟩ := h
    rfl
  · obtain ⟨ls, x, most, rows, rfl, hx, hf, hne, hlen, hpt, hnd, hk0, hk, hmo, hT, qE, qT⟩ := h
    have nd := scMOf.nd
    refine ⟨_, pss_cons (ps_set (i := 3) nd rfl (.inl rfl) (pe_lst pa_nil))
      (pss_cons (ps_for PassesOwn.leaving rfl (pi_enumT (by rfl) menum (pa_cons (pv 1) pa_nil)) (pg_tup (by rfl) (pgs_cons (pg_name (i := 4) nd rfl (.inl rfl)) (pgs_cons (pg_name (i := 5) nd rfl (.inl rfl)) pgs_nil)))
        (pss_cons (L2H.ps_try_onlyX (tb := fun W => tAsg (tCallS (spRowM C T) (WE W) (tCons (tVar 0) (tCons (tVar 5) (tCons (tVar 3) (tCons (tVar 2) tNil))))) (gName 6)) (ts := fun _ _ _ => fun _ σ H => tMkO C (spTm C) [] (tCons (tVar 4) tNil) σ H fun cls d H' => E cls d H')
            (Wout := fun cls d _ H' => E cls d H') rfl rfl ⟨rfl, by decide, .inl t.gC⟩ (L2H.passesAt_of rfl) (L2.takes_of rfl rfl rfl rfl)
            (fun W pn xe tk _ _ => pss_one (ps_set (i := 6) nd rfl (.inl rfl) (pe_callS GR hr (by rfl) gR kR bR (fun σ => L2N.passAt tk σ) (pa_cons (pv 0) (pa_cons (pv 5) (pa_cons (pv 3) (pa_cons (pv 2) pa_nil)))))))
            (fun a oe cls d pn _ _ tkS hot => pss_one (L2H.ps_raiseHN hot tkS (L2H.pmk5_oexH t.T t.iC t.tI GI (L2H.roomH_mark (hr.mono (by decide)) _) hot bI pass0 (by rfl) t.gC (pa_cons (pv 4) pa_nil)))))
        (pss_one (ps_expr (pe_bm PySem.F.plainAttrs_list PySem.F.slot_list_append PySem.F.type_list_append mt_append (pv 3) (pa_cons (pv 6) pa_nil))))))
      (pss_one (ps_ret (pe_ix ix_list (pv 3) (pe_un un_neg pe_int) (fun _ _ => rfl))))), ?_⟩
    obtain ⟨p, vr, rfl, hp, hrows⟩ := hx
    have hvr : vr.length = rows.length := Paired.length hrows
    refine ⟨by show 0 ≤ sizeLine; decide, fun l nl => ?_⟩
    have s0 : Same H (upd H l (.lst [])) := Same.new nl
    refine ⟨.ref p, rfl, p, vr, rfl, SqT.of (s0 _ _ hp), ?_⟩
    refine for_enumT (xs := vr) (fun i σ' H' => ∃ (ms : List Mc) (vm : List V) (y4 y5 y6 : Option V), σ' = [some (.str ls), some (.ref p), some (iv most), some (.ref l), y4, y5, y6] ∧ ExtN H H' ∧ TabsN T H' ∧ H' l = some (.lst vm) ∧ MadeAt H' vm ls ms ∧ build ls.length most [] (rows.take i) = .ok ms)
      ⟨[], [], none, none, none, rfl, extN_same s0, hT.ext fun b o e => s0 b o e, upd_same, .nil, by rw [List.take_zero]; rfl⟩ (fun i σ' H' _ hP => ?_) (fun i v σ' H' t0 hi hP nt => ?_) (fun σ' H' hP => ?_)
    · obtain ⟨_, _, _, _, _, _, x1, _⟩ := hP
      exact SqT.of (extN_tst x1 _ _ hp)
    · obtain ⟨ms, vm, y4, y5, y6, rfl, x1, T1, hl1, hm1, hb1⟩ := hP
      obtain ⟨row, hrow, hrv⟩ := paired_getL hrows i v hi
      have hil := (List.getElem?_eq_some_iff.mp hrow).1
      have tk : rows.take (i + 1) = rows.take i ++ [row] := by rw [List.take_add_one, hrow]; rfl
      have hml : ms.length = i := by
        have := build_len hb1
        rw [List.length_take] at this
        simp at this
        omega
      have hbs := build_snoc (row := row) hb1
      rw [← tk] at hbs
      have hfr : row.fits ls.length ms.length := by
        have := hf i row hrow
        rw [Nat.zero_add] at this
        rw [hml]
        exact this
      have hpm := hpt i ms hb1
      have s1 : Same H' (upd H' t0 (.tup [iv i, v])) := Same.new nt
      refine ⟨t0, _, rfl, SqT.of upd_same, rfl, _, _, rfl, _, _, rfl, rfl, ?_⟩
      have x2 : ExtN H (upd H' t0 (.tup [iv i, v])) := x1.trans (extN_same s1)
      have T2 : TabsN T (upd H' t0 (.tup [iv i, v])) := T1.ext fun b o e => s1 b o e
      have hl2 := s1 _ _ hl1
      -- row_machine
      refine ⟨.str ls, rfl, v, rfl, .ref l, rfl, iv most, rfl, ls, v, l, vm, ms, most, row, rfl, hrv.tst (extN_tst x2), hl2, hm1.tst s1.tst, hfr, hpm, hnd, hk0, hk, hmo, T2, fun ho => ?_, fun ho => ?_⟩
      · -- TooMany comes out: TooMany(at)
        intro H3 d3 x3 T3 e3
        refine ⟨true, t.te, fun _ a na => ?_, fun z => nomatch z⟩
        have hbe : build ls.length most [] rows = .error i := by
          have h1 : build ls.length most [] (rows.take (i + 1)) = .error i := by
            rw [hbs]
            unfold stepR
            rw [ho, if_pos rfl, hml]
          have h2 := build_app_err (more := rows.drop (i + 1)) h1
          rw [List.take_append_drop] at h2
          exact h2
        refine ⟨iv i, rfl, ?_⟩
        have h4 : Tm E C H3 i := fun H4 d4 s4 e4 => qE i hbe H4 d4 ((x2.trans x3).trans (extN_same s4)) (T3.ext fun b o e => s4 b o e) e4
        exact tm_out h4
      · intro H3 u x3 T3 hu
        have hl3 := x3 _ _ hl2 fun ps z => nomatch z
        have hbo : build ls.length most [] (rows.take (i + 1)) = .ok (ms ++ [rowM ls.length ms row]) := by
          rw [hbs]
          unfold stepR
          rw [ho]
          rfl
        have hmv : vm.length = ms.length := Paired.length hm1
        have ts : Tst H3 (upd H3 l (.lst (vm ++ [u]))) := ts_lst hl3
        refine ⟨.ref l, rfl, .inl ⟨rfl, _, SqL.of hl3⟩, u, rfl, l, _, _, rfl, rfl, hl3, small (by omega), ?_⟩
        exact ⟨_, _, _, _, _, rfl, extN_upd (x2.trans x3) nl, tabs_upd T3 hl3, upd_same, Paired.snoc ((hm1.tst s1.tst).tst ((extN_tst x3).trans ts)) (hu.tst ts), hbo⟩
    · obtain ⟨ms, vm, y4, y5, y6, rfl, x1, T1, hl1, hm1, hb1⟩ := hP
      rw [hvr, List.take_length] at hb1
      have hml : ms.length = rows.length := by
        have := build_len hb1
        simp at this
        exact this
      have hr0 : 0 < rows.length := List.length_pos_iff.mpr hne
      obtain ⟨u, eu, hu⟩ := hm1.at_ (i := rows.length - 1) (by omega)
      have hmv : vm.length = ms.length := Paired.length hm1
      refine ⟨.ref l, rfl, 1, rfl, l, _, _, _, rfl, rfl, SqL.of hl1, atI_last (by rw [hmv, hml]; exact eu), ?_⟩
      exact qT ms hb1 H' u x1 T1 hu
end
end Cw
set_option Elab.async false
set_option linter.all false
set_option maxRecDepth 100000
set_option maxHeartbeats 4000000
/-! _law_box, _law_take -/
namespace Cw
open PySem PySem.Spec PyProof.Rows L2 Kw
/-- a box: what is left of a cell, a seed -/
def BoxAt (H : Hp) (l : Addr) : Prop := ∃ a b : Int, H l = some (.lst [.int a, .int b]) ∧ 1 ≤ b ∧ b ≤ 2147483629
/-- all but what stands at l stays -/
def But (l : Addr) (H H' : Hp) : Prop := ∀ b o, b ≠ l → H b = some o → H' b = some o
theorem But.refl (l : Addr) (H : Hp) : But l H H := fun _ _ _ e => e
theorem But.trans {l : Addr} {H H1 H2 : Hp} (a : But l H H1) (b : But l H1 H2) : But l H H2 := fun c o n e => b c o n (a c o n e)
theorem But.of {l : Addr} {H H' : Hp} (s : Same H H') : But l H H' := fun b o _ e => s b o e
theorem But.upd {l : Addr} {H : Hp} {u : HO} : But l H (upd H l u) := fun b o n e => by rw [upd_ne n]; exact e
theorem But.set {l k : Addr} {H H' : Hp} {u : HO} (b : But l H H') (n : H k = none) : But l H (L2.upd H' k u) := fun c o m e => by
  rw [upd_ne (ne_of_none e n)]
  exact b c o m e
theorem But.tst {l : Addr} {H H' : Hp} (b : But l H H') (h : BoxAt H l) : Tst H H' := fun c xs e => b c _ (fun z => by
  obtain ⟨x, y, q, _⟩ := h
  rw [z, q] at e
  cases e) e
section
variable {P : Program} {w : World} {K : PySem.W.Frag} {mg : Str → Option Value} {base : Heap}
def spBox (K : PySem.W.Frag) : Sp := fun vs H Q _ => ∃ (l : Addr) (ns : List Int) (k : Nat), vs = [.ref l, iv k] ∧ SqL K H l (ns.map V.int) ∧ ns.length ≤ 1000 ∧ k ≤ 1000 ∧ ∀ p o, H p = none → BoxAt (upd H p o) p → Q (.ref p) (upd H p o)
theorem mod_lt (x : Int) : 0 ≤ x % 2147483629 ∧ x % 2147483629 < 2147483629 := ⟨Int.emod_nonneg x (by decide), Int.emod_lt_of_pos x (by decide)⟩
theorem ok_box {f : Addr} {fd : FuncData} (F : Fun K "_law_box" "_law_box" sLBox f fd) (mlen : mg "len" = none) (mint : mg "int" = none) : FnOk P w K mg base CX0 1 f fd ["_law_script", "_law_k"] (spBox K) := by
  refine F.ok scLBox (fun vs H Q E h => ?_) (fun cdv A outer s H vs Q E hr h => ?_)
  · obtain ⟨l, ns, k, rfl, _⟩ := h
    rfl
  · obtain ⟨l, ns, k, rfl, hs, hn, hk, q⟩ := h
    have nd := scLBox.nd
    -- what follows the cell
    obtain ⟨t3, hp3, hr3⟩ : ∃ t, PSs (cxOf CX0 P w K mg base nLBox "_law_box" (defScope sLBox) f cdv A outer s H E).nox ((defBody sLBox).drop 2) t ∧ ∀ c : Int, t { nx := fun _ H' => Q .non H', rt := Q } [some (.ref l), some (iv k), some (.int c), none] H := by
      refine ⟨_, pss_cons (ps_set (i := 3) nd rfl (.inl rfl) (pe_op op_add (pe_op op_mod (pe_op op_add (pe_op op_mul (pe_op op_mod (pv 2) pe_int) pe_int) (pe_op op_mul pe_int (pv 1))) pe_int) pe_int))
        (pss_one (ps_ret (pe_lst (pa_cons (pe_op op_mul (pv 2) (pe_callTy call_int1 (by rfl) mint bInt (pa_cons (pe_cmpR op_ge (pv 2) (pe_op op_pow pe_int pe_int) (nomark _)) pa_nil))) (pa_cons (pv 3) pa_nil))))), fun c => ?_⟩
      have m1 := mod_lt c
      refine ⟨.int c, rfl, c, 2147483629, rfl, rfl, by show (0 : Int) < 2147483629; decide, ?_⟩
      refine ⟨c % 2147483629, 48271, rfl, rfl, .inr ⟨by decide, by decide⟩, ?_⟩
      refine ⟨iv k, rfl, 40692, k, rfl, rfl, .inl ⟨by decide, by decide⟩, ?_⟩
      refine ⟨_, _, rfl, rfl, ?_⟩
      refine ⟨_, _, rfl, rfl, by show (0 : Int) < 2147483629; decide, ?_⟩
      refine ⟨_, _, rfl, rfl, ?_⟩
      have m2 := mod_lt (c % 2147483629 * 48271 + 40692 * k)
      generalize (c % 2147483629 * 48271 + 40692 * (k : Int)) % 2147483629 = e at m2
      refine ⟨.int c, rfl, .int c, rfl, 10, 18, rfl, rfl, ⟨by decide, by decide, by decide⟩, _, _, rfl, rfl, .inr ⟨_, rfl, ?_⟩⟩
      refine ⟨_, _, rfl, rfl, .inr ?_, ?_⟩
      · split <;> decide
      · refine ⟨_, rfl, by show 2 ≤ sizeLine; decide, fun p np => ?_⟩
        exact q p _ np ⟨_, _, upd_same, by omega, by omega⟩
    refine ⟨_, pss_cons (ps_set (i := 2) nd rfl (.inl rfl) (pe_op op_add (pe_op op_mul pe_int (pv 1)) pe_int))
      (pss_cons (ps_if (pt_cmpR op_lt (pv 1) (pe_callB call_len (by rfl) mlen PySem.boot_len (pa_cons (pv 0) pa_nil)) (nomark _)) (pss_one (ps_set (i := 2) nd rfl (.inl rfl) (pe_ix ix_list (pv 0) (pv 1) (fun _ _ => rfl))))
          (pss_one (ps_if (pt_cmpR op_gt (pe_callB call_len (by rfl) mlen PySem.boot_len (pa_cons (pv 0) pa_nil)) pe_int (nomark _)) (pss_one (ps_set (i := 2) nd rfl (.inl rfl) (pe_op op_add (pv 2) (pe_op op_mul (pe_op op_mod (pe_ix ix_list (pv 0) (pe_op op_mod (pv 1) (pe_callB call_len (by rfl) mlen PySem.boot_len (pa_cons (pv 0) pa_nil))) (fun _ _ => rfl)) pe_int) pe_int)))) pss_nil)))
        hp3), ?_⟩
    have hlen : (ns.map V.int).length = ns.length := List.length_map _
    refine ⟨iv k, rfl, 7919, k, rfl, rfl, .inl ⟨by decide, by decide⟩, _, _, rfl, rfl, ?_⟩
    refine ⟨iv k, rfl, .ref l, rfl, .ref l, (ns.map V.int).length, rfl, .inl ⟨_, hs, rfl⟩, _, _, rfl, rfl, _, rfl, ?_⟩
    rw [hlen]
    by_cases h1 : k < ns.length
    · refine iteP (decide_eq_true (by omega)) ?_
      refine ⟨.ref l, rfl, iv k, rfl, l, _, _, _, rfl, rfl, hs, atI_nat (j := k) (by rw [List.getElem?_map, List.getElem?_eq_getElem h1]; rfl), ?_⟩
      exact hr3 _
    · refine iteN (decide_eq_false (by omega)) ?_
      refine ⟨.ref l, rfl, .ref l, (ns.map V.int).length, rfl, .inl ⟨_, hs, rfl⟩, _, _, rfl, rfl, _, rfl, ?_⟩
      rw [hlen]
      by_cases h2 : 0 < ns.length
      · refine iteP (decide_eq_true (by omega)) ?_
        have h3 : k % ns.length < ns.length := Nat.mod_lt _ h2
        refine ⟨_, rfl, .ref l, rfl, iv k, rfl, .ref l, rfl, .ref l, (ns.map V.int).length, rfl, .inl ⟨_, hs, rfl⟩, (k : Int), _, rfl, rfl, ?_, ?_⟩
        · show (0 : Int) < _
          rw [hlen]; omega
        · have e3 : (k : Int) % ((ns.map V.int).length : Nat) = ((k % ns.length : Nat) : Int) := by rw [hlen]; omega
          refine ⟨l, _, ((k % ns.length : Nat) : Int), _, rfl, congrArg V.int e3, hs, atI_nat (j := k % ns.length) (by rw [List.getElem?_map, List.getElem?_eq_getElem h3]; rfl), ?_⟩
          refine ⟨_, _, rfl, rfl, by show (0 : Int) < 2147483629; decide, ?_⟩
          refine ⟨_, _, rfl, rfl, .inr ⟨by decide, by decide⟩, _, _, rfl, rfl, ?_⟩
          exact hr3 _
      · exact iteN (decide_eq_false (by omega)) (hr3 _)
def spTake : Sp := fun vs H Q _ => ∃ (l : Addr) (n : Nat), vs = [.ref l, iv n] ∧ 0 < n ∧ n ≤ 1000 ∧ BoxAt H l ∧ ∀ d o, d < n → BoxAt (upd H l o) l → Q (iv d) (upd H l o)
theorem dig (x : Int) {n : Nat} (h : 0 < n) : ∃ d : Nat, d < n ∧ x % (n : Int) = d := by
  have h1 : 0 ≤ x % (n : Int) := Int.emod_nonneg x (by omega)
  have h2 : x % (n : Int) < (n : Int) := Int.emod_lt_of_pos x (by omega)
  exact ⟨(x % (n : Int)).toNat, by omega, by omega⟩
theorem ok_take {f : Addr} {fd : FuncData} (F : Fun K "_law_take" "_law_take" sLTake f fd) : FnOk P w K mg base CX0 1 f fd ["_law_box_here", "_law_wide"] spTake := by
  refine F.ok scLTake (fun vs H Q E h => ?_) (fun cdv A outer s H vs Q E hr h => ?_)
  · obtain ⟨l, n, rfl, _⟩ := h
    rfl
  · obtain ⟨l, n, rfl, hn0, hn, ⟨a, b, hl, hb1, hb2⟩, q⟩ := h
    have nd := scLTake.nd
    have box0 : ∀ {H' : Hp} {xs : List V} {i : Nat} {v : V} {Q : VK}, H' l = some (.lst xs) → xs[i]? = some v → Q v H' → rIxL K (.ref l) (iv i) H' Q := fun h e q => at_lst h e q
    refine ⟨_, pss_cons (ps_if (pt_cmpR op_gt (pe_ix ix_list (pv 0) pe_int (fun _ _ => rfl)) pe_int (nomark _))
        (pss_cons (ps_set (i := 2) nd rfl (.inl rfl) (pe_op op_mod (pe_ix ix_list (pv 0) pe_int (fun _ _ => rfl)) (pv 1)))
        (pss_cons (ps_asg (pe_op op_fdiv (pe_ix ix_list (pv 0) pe_int (fun _ _ => rfl)) (pv 1)) (pg_sub (pv 0) pe_int set_list))
        (pss_one (ps_ret (pv 2))))) pss_nil)
      (pss_cons (ps_set (i := 3) nd rfl (.inl rfl) (pe_op op_mod (pe_op op_mul (pe_ix ix_list (pv 0) pe_int (fun _ _ => rfl)) pe_int) pe_int))
      (pss_cons (ps_asg (pe_op op_add (pe_op op_mod (pe_op op_add (pe_op op_mul (pv 3) pe_int) pe_int) pe_int) pe_int) (pg_sub (pv 0) pe_int set_list))
      (pss_one (ps_ret (pe_op op_mod (pe_op op_fdiv (pe_op op_add (pe_op op_mul (pv 3) pe_int) (pe_ix ix_list (pv 0) pe_int (fun _ _ => rfl))) pe_int) (pv 1)))))), ?_⟩
    refine ⟨.ref l, rfl, l, _, _, _, rfl, rfl, SqL.of hl, (atI_nat (j := 0) rfl), _, _, rfl, rfl, _, rfl, ?_⟩
    by_cases h0 : (0 : Int) < a
    · refine iteP (decide_eq_true h0) ?_
      obtain ⟨d, hd, ed⟩ := dig a hn0
      refine ⟨.ref l, rfl, l, _, _, _, rfl, rfl, SqL.of hl, (atI_nat (j := 0) rfl), iv n, rfl, _, _, rfl, rfl, by show (0 : Int) < n; omega, ?_⟩
      refine ⟨.ref l, rfl, l, _, _, _, rfl, rfl, SqL.of hl, (atI_nat (j := 0) rfl), iv n, rfl, _, _, rfl, rfl, ⟨by omega, by omega⟩, ?_⟩
      refine ⟨.ref l, rfl, l, _, _, 0, rfl, rfl, hl, rfl, ?_⟩
      refine ⟨.int (a % n), rfl, ?_⟩
      have e : V.int (a % n) = iv d := congrArg V.int ed
      rw [e]
      exact q d _ hd ⟨_, _, upd_same, hb1, hb2⟩
    · refine iteN (decide_eq_false h0) ?_
      refine ⟨.ref l, rfl, l, _, _, _, rfl, rfl, SqL.of hl, (atI_nat (j := 1) rfl), _, _, rfl, rfl, .inl ⟨by omega, by omega⟩, _, _, rfl, rfl, by show (0 : Int) < 2147483647; decide, ?_⟩
      have m1 : 0 ≤ b * 69623 % 2147483647 ∧ b * 69623 % 2147483647 < 2147483647 := ⟨Int.emod_nonneg _ (by decide), Int.emod_lt_of_pos _ (by decide)⟩
      refine ⟨_, rfl, _, _, rfl, rfl, .inl ⟨by omega, by omega⟩, _, _, rfl, rfl, _, _, rfl, rfl, by show (0 : Int) < 2147483629; decide, _, _, rfl, rfl, ?_⟩
      have m2 := mod_lt (b * 69623 % 2147483647 * 48271 + 30103)
      refine ⟨.ref l, rfl, l, _, _, 1, rfl, rfl, hl, rfl, ?_⟩
      refine ⟨_, rfl, _, _, rfl, rfl, .inl ⟨by omega, by omega⟩, .ref l, rfl, l, _, _, _, rfl, rfl, SqL.of upd_same, (atI_nat (j := 1) rfl), _, _, rfl, rfl, _, _, rfl, rfl, ⟨by decide, by decide⟩, iv n, rfl, _, _, rfl, rfl, by show (0 : Int) < n; omega, ?_⟩
      obtain ⟨d, hd, ed⟩ := dig ((b * 69623 % 2147483647 * 2147483647 + ((b * 69623 % 2147483647 * 48271 + 30103) % 2147483629 + 1)) / 8191) hn0
      show Q (V.int ((b * 69623 % 2147483647 * 2147483647 + ((b * 69623 % 2147483647 * 48271 + 30103) % 2147483629 + 1)) / 8191 % n)) _
      rw [ed]
      exact q d _ hd ⟨_, _, upd_same, by omega, by omega⟩
end
end Cw
set_option Elab.async false
set_option linter.all false
set_option maxRecDepth 100000
set_option maxHeartbeats 4000000
/-! _law_letters, _law_text, _law_row_at -/
namespace Cw
open PySem PySem.Spec PyProof.Rows L2 Kw
abbrev sg (c : Nat) : V := .str ⟨#[c]⟩
/-- list(s), s a text -/
def rListStr : List V → Hp → VK → Prop := fun xs H Q => ∃ x : Str, xs = [.str x] ∧ x.cps.size ≤ sizeLine ∧ ∀ q, H q = none → Q (.ref q) (upd H q (.lst (x.cps.toList.map sg)))
theorem call_listS {X : Cx} (hc : X.calm = true) : CallR X (.type "list") rListStr := by
  intro pins s σ H xs us Q I r h
  obtain ⟨x, e, hz, q⟩ := h
  subst e
  obtain ⟨u, eu, rx⟩ := vals1 r
  subst eu
  obtain ⟨t, rfl⟩ := rx
  refine call_list_str (hn := hz) (I.ok.hd hc) x t fun h' tk acc' c' hkeep hS hacc => ?_
  refine ⟨.ref s.heap.objs.size, upd H s.heap.objs.size (.lst (x.cps.toList.map sg)), I.laid hkeep (Nat.le_refl _) (show ObjOk X.prog X.w _ _ _ (.lst (x.cps.toList.map sg)) from ⟨?_, acc'.toList, c', ?_, ?_⟩), rfl, q _ (I.hok.fresh (Nat.le_refl _))⟩
  · rw [List.length_map, Array.length_toList]
    exact hz
  · have el : acc'.toList.length = acc'.size := by simp
    refine vals_of_at (by rw [List.length_map, el, hacc.1, Array.length_toList]) fun j y w h1 h2 => ?_
    obtain ⟨c, u, hky, hi⟩ := hacc.2 j w (by rw [← Array.getElem?_toList]; exact h2)
    subst hi
    rw [List.getElem?_map, Array.getElem?_toList, hky] at h1
    cases h1
    exact ⟨u, rfl⟩
  · rw [Array.toArray_toList]
    exact hS
section
variable {P : Program} {w : World} {K : PySem.W.Frag} {mg : Str → Option Value} {base : Heap}
def spLetters : Sp := fun vs H Q _ => ∃ l : Addr, vs = [.ref l, .int 3] ∧ BoxAt H l ∧ ∀ H' ls, But l H H' → BoxAt H' l → ls.cps.toList.Nodup → 0 < ls.length → ls.length ≤ 3 → PyData.strOk ls = true → Q (.str ls) H'
theorem erase_perm {α : Type} {xs : List α} {i : Nat} {y : α} (h : xs[i]? = some y) : (y :: xs.eraseIdx i).Perm xs := by
  induction xs generalizing i with
  | nil => simp at h
  | cons x xs ih =>
    cases i with
    | zero =>
      cases h
      simp
    | succ i =>
      have := ih (i := i) h
      rw [List.eraseIdx_cons_succ]
      exact (List.Perm.swap _ _ _).trans (this.cons x)
theorem map_erase {α β : Type} (f : α → β) : ∀ (l : List α) (i : Nat), (l.map f).eraseIdx i = (l.eraseIdx i).map f
  | [], i => rfl
  | x :: l, 0 => rfl
  | x :: l, i + 1 => congrArg (f x :: ·) (map_erase f l i)
theorem ok_letters {f fT : Addr} {fd fdT : FuncData} (F : Fun K "_law_letters" "_law_letters" sLLetters f fd) (GT : FnOk P w K mg base CX0 1 fT fdT ["_law_box_here", "_law_wide"] spTake) (kT : PySem.W.keepIn K (.ref fT) = true) (bT : Binds K fdT ["_law_box_here", "_law_wide"] []) (gT : mg "_law_take" = some (.ref fT))
    (mlist : mg "list" = none) (mrng : mg "range" = none) (mlen : mg "len" = none) : FnOk P w K mg base CX0 2 f fd ["_law_box_here", "_law_most"] spLetters := by
  refine F.ok scLLetters (fun vs H Q E h => ?_) (fun cdv A outer s H vs Q E hr h => ?_)
  · obtain ⟨l, rfl, _⟩ := h
    rfl
  · obtain ⟨l, rfl, hb, q⟩ := h
    have nd := scLLetters.nd
    refine ⟨_, pss_cons (ps_set (i := 2) nd rfl (.inl rfl) (pe_callTy (call_listS rfl) (by rfl) mlist bList (pa_cons pe_str pa_nil)))
      (pss_cons (ps_set (i := 3) nd rfl (.inl rfl) pe_str)
      (pss_cons (ps_for PassesOwn.never rfl (pi_range1 rfl mrng (pa_cons (pe_op op_add pe_int (pe_call GT hr (by rfl) gT kT bT .nil pass0 (pa_cons (pv 0) (pa_cons (pv 1) pa_nil)))) pa_nil)) (pg_name (i := 4) nd rfl (.inl rfl))
        (pss_one (ps_set (i := 3) nd rfl (.inl rfl) (pe_op op_add_str (pv 3) (pe_bm PySem.F.plainAttrs_list PySem.F.slot_list_pop PySem.F.type_list_pop mt_popAt (pv 2) (pa_cons (pe_call GT hr (by rfl) gT kT bT .nil pass0 (pa_cons (pv 0) (pa_cons (pe_callB call_len_seq (by rfl) mlen PySem.boot_len (pa_cons (pv 2) pa_nil)) pa_nil))) pa_nil))))))
      (pss_one (ps_ret (pv 3))))), ?_⟩
    have hb0 := hb
    obtain ⟨ba, bb, hb1, hb2⟩ := hb
    refine ⟨_, rfl, by decide, fun pl npl => ?_⟩
    have nlp : l ≠ pl := ne_of_none hb1 npl
    generalize hcs : (("abcdefghijklmnopqrstuvwxyz" : Str).cps.toList) = cs
    have hcn : cs.Nodup := by rw [← hcs]; decide
    have hcl : cs.length = 26 := by rw [← hcs]; decide
    have hpl0 : (upd H pl (.lst (cs.map sg))) pl = some (.lst (cs.map sg)) := upd_same
    have hb3 : BoxAt (upd H pl (.lst (cs.map sg))) l := ⟨ba, bb, by rw [upd_ne nlp]; exact hb1, hb2⟩
    have bt3 : But l H (upd H pl (.lst (cs.map sg))) := But.of (Same.new npl)
    generalize upd H pl (.lst (cs.map sg)) = H1 at hpl0 hb3 bt3
    refine ⟨.ref l, rfl, .int 3, rfl, l, 3, rfl, by decide, by decide, hb3, fun d o hd bo => ?_⟩
    have bt4 : But l H (upd H1 l o) := bt3.trans But.upd
    have hpl4 : (upd H1 l o) pl = some (.lst (cs.map sg)) := by rw [upd_ne (Ne.symm nlp)]; exact hpl0
    refine ⟨1, d, rfl, rfl, (1 : Int) + d, rfl, by omega, by omega, ?_⟩
    have et : ((1 : Int) + d).toNat = 1 + d := by omega
    rw [et]
    refine for_range (n := 1 + d) (fun i σ' H' => ∃ (fo ch : List Nat) (y4 : Option V), σ' = [some (.ref l), some (.int 3), some (.ref pl), some (.str ⟨fo.toArray⟩), y4] ∧ But l H H' ∧ BoxAt H' l ∧ H' pl = some (.lst (ch.map sg)) ∧ (fo ++ ch).Nodup ∧ (∀ c ∈ fo ++ ch, c < 1114112) ∧ ch.length + i = 26 ∧ fo.length = i)
      ⟨[], cs, none, rfl, bt4, bo, hpl4, hcn, (by rw [← hcs]; decide), by omega, rfl⟩ (fun i σ' H' hi hP => ?_) (fun σ' H' hP => ?_)
    · obtain ⟨fo, ch, y4, rfl, bt5, bo5, hpl5, hnd5, hlo5, hl5, hf5⟩ := hP
      refine ⟨.str ⟨fo.toArray⟩, rfl, .ref pl, rfl, .inl ⟨rfl, _, SqL.of hpl5⟩, .ref l, rfl, .ref pl, rfl, pl, _, rfl, .inl (SqL.of hpl5), l, ch.length, by rw [List.length_map]; rfl, by omega, by omega, bo5, fun d2 o2 hd2 bo6 => ?_⟩
      have hpl6 : (upd H' l o2) pl = some (.lst (ch.map sg)) := by rw [upd_ne (Ne.symm nlp)]; exact hpl5
      have ey : (ch.map sg)[d2]? = some (sg ch[d2]) := by rw [List.getElem?_map, List.getElem?_eq_getElem hd2]; rfl
      refine ⟨pl, _, (d2 : Int), d2, _, rfl, rfl, hpl6, by omega, by omega, ?_, ey, ?_⟩
      · rw [seqIndex_of (by omega) (by rw [List.length_map]; omega)]
        rfl
      refine ⟨⟨fo.toArray⟩, ⟨#[ch[d2]]⟩, rfl, rfl, ?_, ?_⟩
      · show fo.toArray.size + 1 ≤ sizeLine
        exact small' (by simp; omega)
      have es : (⟨fo.toArray⟩ ++ ⟨#[ch[d2]]⟩ : Str) = ⟨(fo ++ [ch[d2]]).toArray⟩ := by
        show (Str.mk (fo.toArray ++ #[ch[d2]])) = _
        congr 1
        simp
      rw [es]
      have eer : ((ch.map sg).eraseIdx d2) = (ch.eraseIdx d2).map sg := map_erase _ _ _
      refine ⟨fo ++ [ch[d2]], ch.eraseIdx d2, _, rfl, (bt5.trans But.upd).set npl, ?_, by rw [upd_same, eer], ?_, ?_, ?_, by rw [List.length_append, hf5]; rfl⟩
      · obtain ⟨x, y, e1, e2⟩ := bo6
        exact ⟨x, y, by rw [upd_ne nlp]; exact e1, e2⟩
      · have := (erase_perm (List.getElem?_eq_getElem hd2))
        refine (List.Perm.nodup_iff ?_).mpr hnd5
        rw [List.append_assoc]
        exact List.Perm.append_left fo this
      · intro c hc
        refine hlo5 c ?_
        rcases List.mem_append.mp hc with z | z
        · rcases List.mem_append.mp z with y | y
          · exact List.mem_append_left _ y
          · obtain rfl : c = ch[d2] := by simpa using y
            exact List.mem_append_right _ (List.getElem_mem hd2)
        · exact List.mem_append_right _ (List.mem_of_mem_eraseIdx z)
      · rw [List.length_eraseIdx, if_pos hd2]
        omega
    · obtain ⟨fo, ch, y4, rfl, bt5, bo5, hpl5, hnd5, hlo5, hl5, hf5⟩ := hP
      refine ⟨.str ⟨fo.toArray⟩, rfl, ?_⟩
      refine q H' _ bt5 bo5 ?_ ?_ ?_ ?_
      · exact (List.nodup_append.mp hnd5).1
      · show 0 < fo.toArray.size
        simp; omega
      · show fo.toArray.size ≤ 3
        simp; omega
      · show fo.toArray.all (fun x => decide (x < 1114112)) = true
        rw [List.all_toArray]
        exact List.all_eq_true.mpr fun c hc => decide_eq_true (hlo5 c (List.mem_append_left _ hc))
def spText : Sp := fun vs H Q _ => ∃ (l : Addr) (ls : Str) (n : Nat), vs = [.ref l, .str ls, iv n] ∧ BoxAt H l ∧ 0 < ls.length ∧ ls.length ≤ 100 ∧ n ≤ 10 ∧ ∀ H' (w : List Nat), But l H H' → Ok ls.length w → w.length ≤ n → Q (.str ⟨(w.map fun a => ls.cps.toList.getD a 0).toArray⟩) H'
theorem str_app (a b : Str) : (a ++ b).cps = a.cps ++ b.cps := rfl
theorem sjoin_empty : ∀ (cs : List Nat), (Str.join ("" : Str) (cs.map fun c => (⟨#[c]⟩ : Str))).cps = cs.toArray
  | [] => rfl
  | [c] => rfl
  | c :: d :: cs => by
    show ((⟨#[c]⟩ ++ ("" : Str) ++ Str.join ("" : Str) ((d :: cs).map fun c => (⟨#[c]⟩ : Str)) : Str)).cps = _
    rw [str_app, str_app, sjoin_empty (d :: cs)]
    have e : (("" : Str)).cps = #[] := by decide
    rw [e]
    simp
theorem join_empty (cs : List Nat) : Txt.join ("" : Str) (cs.map fun c => (⟨#[c]⟩ : Str)) = ⟨cs.toArray⟩ := by
  rw [TL.join_eq]
  have h := sjoin_empty cs
  generalize Str.join ("" : Str) (cs.map fun c => (⟨#[c]⟩ : Str)) = z at h
  cases z
  cases h
  rfl
theorem lenV {X : Cx} (K : PySem.W.Frag) (h : X.K = K := by rfl) : CallR X (.builtin "len") (fun xs H Q => ∃ x n, xs = [x] ∧ LenV K x H n ∧ Q (.int n) H) := by
  subst h
  exact call_len
theorem ok_text {f fT : Addr} {fd fdT : FuncData} (F : Fun K "_law_text" "_law_text" sLText f fd) (GT : FnOk P w K mg base CX0 1 fT fdT ["_law_box_here", "_law_wide"] spTake) (kT : PySem.W.keepIn K (.ref fT) = true) (bT : Binds K fdT ["_law_box_here", "_law_wide"] []) (gT : mg "_law_take" = some (.ref fT))
    (mrng : mg "range" = none) (mlen : mg "len" = none) : FnOk P w K mg base CX0 2 f fd ["_law_box_here", "_law_letters_here", "_law_most"] spText := by
  refine F.ok scLText (fun vs H Q E h => ?_) (fun cdv A outer s H vs Q E hr h => ?_)
  · obtain ⟨l, ls, n, rfl, _⟩ := h
    rfl
  · obtain ⟨l, ls, n, rfl, hb, hk0, hk, hn, q⟩ := h
    have nd := scLText.nd
    refine ⟨_, pss_one (ps_ret (pe_join pe_str (pe_lc (own := [("_law_k", 3)]) (g := gName 3) (tt := tYes) rfl nd (pi_range1 (by rfl) mrng (pa_cons (pe_call GT hr (by rfl) gT kT bT .nil pass0 (pa_cons (pv 0) (pa_cons (pe_op op_add (pv 2) pe_int) pa_nil))) pa_nil)) (blkOk_by (own := [("_law_k", 3)]) (N := nLText) (sc := defScope sLText) (by decide +kernel)) (fun _ _ _ _ _ => pg_name (i := 3) nd rfl (Or.inl rfl)) (fun _ _ _ _ _ => pts_nil)
      (fun _ _ _ _ _ => pe_ix ix_str (pv 1) (pe_call GT hr (by rfl) gT kT bT .nil pass0 (pa_cons (pv 0) (pa_cons (pe_callB (lenV K) (by rfl) mlen PySem.boot_len (pa_cons (pv 1) pa_nil)) pa_nil))) (fun _ _ => rfl))))), ?_⟩
    refine ⟨⟨_, rfl⟩, .ref l, rfl, iv n, rfl, _, _, rfl, rfl, l, n + 1, rfl, by omega, by omega, hb, fun d o hd bo => ?_⟩
    have bt1 : But l H (upd H l o) := But.upd
    generalize upd H l o = H1 at bt1 bo
    refine ⟨(d : Int), rfl, by omega, by omega, fun D hD => ?_⟩
    have nlD : l ≠ D := by
      obtain ⟨x, y, e, _⟩ := bo
      exact ne_of_none e hD
    refine lc_range (lo := 0) (n := d) (fun i H' => ∃ w : List Nat, But l H1 H' ∧ BoxAt H' l ∧ H' D = some (.lst (w.map fun a => sg (ls.cps.toList.getD a 0))) ∧ w.length = i ∧ Ok ls.length w)
      ⟨[], But.of (Same.new hD), (by obtain ⟨x, y, e, z⟩ := bo; exact ⟨x, y, by rw [upd_ne nlD]; exact e, z⟩), upd_same, rfl, fun a ha => by simp at ha⟩ (fun i H' hi hP => ?_) (fun H' hP => ?_)
    · obtain ⟨w, bt, bo', hD', hw, ok⟩ := hP
      refine ⟨rfl, ?_⟩
      refine ⟨.str ls, rfl, .ref l, rfl, .str ls, rfl, .str ls, ls.length, rfl, ⟨small' (by omega), rfl⟩, l, ls.length, rfl, hk0, by omega, bo', fun d2 o2 hd2 bo2 => ?_⟩
      have hdl : d2 < ls.cps.toList.length := by rw [Array.length_toList]; exact hd2
      refine ⟨ls, (d2 : Int), ls.cps.toList.getD d2 0, rfl, rfl, small' (by omega), atI_nat (by rw [List.getD_eq_getElem?_getD, List.getElem?_eq_getElem hdl]; rfl), ?_⟩
      have hD4 : (upd H' l o2) D = some (.lst (w.map fun a => sg (ls.cps.toList.getD a 0))) := by rw [upd_ne (Ne.symm nlD)]; exact hD'
      refine ⟨_, hD4, by rw [List.length_map]; exact small (by omega), w ++ [d2], (bt.trans But.upd).set hD, ?_, by rw [upd_same, List.map_append]; rfl, by rw [List.length_append, hw]; rfl, fun a ha => ?_⟩
      · obtain ⟨x, y, e, z⟩ := bo2
        exact ⟨x, y, by rw [upd_ne nlD]; exact e, z⟩
      · rcases List.mem_append.mp ha with z | z
        · exact ok a z
        · obtain rfl : a = d2 := by simpa using z
          exact hd2
    · obtain ⟨w, bt, bo', hD', hw, ok⟩ := hP
      have e : (w.map fun a => sg (ls.cps.toList.getD a 0)) = ((w.map fun a => ls.cps.toList.getD a 0).map fun c => (⟨#[c]⟩ : Str)).map V.str := by
        rw [List.map_map, List.map_map]
        rfl
      refine ⟨_, D, ((w.map fun a => ls.cps.toList.getD a 0).map fun c => (⟨#[c]⟩ : Str)), rfl, rfl, .inl (SqL.of (by rw [← e]; exact hD')), ?_, ?_⟩
      · have h1 : ((((w.map fun a => ls.cps.toList.getD a 0).map fun c => (⟨#[c]⟩ : Str))).map (·.length)).sum ≤ 11 := by
          rw [List.map_map, List.map_map]
          have : ∀ (w : List Nat), (w.map (((fun x : Str => x.length) ∘ fun c => (⟨#[c]⟩ : Str)) ∘ fun a => ls.cps.toList.getD a 0)).sum = w.length := fun w => by
            induction w with
            | nil => rfl
            | cons a w ih =>
              rw [List.map_cons, List.sum_cons, ih, List.length_cons]
              show 1 + w.length = w.length + 1
              omega
          rw [this]
          omega
        have h2 : (("" : Str)).length = 0 := by decide
        rw [h2]
        omega
      · rw [join_empty]
        exact q H' w (bt1.trans bt) ok (by omega)
def spRowAt : Sp := fun vs H Q _ => ∃ (l : Addr) (k : Nat), vs = [.ref l, iv k] ∧ BoxAt H l ∧ 0 < k ∧ k ≤ 100 ∧ ∀ H' j, But l H H' → BoxAt H' l → j < k → Q (iv j) H'
theorem ok_rowat {f fT : Addr} {fd fdT : FuncData} (F : Fun K "_law_row_at" "_law_row_at" sLRowAt f fd) (GT : FnOk P w K mg base CX0 1 fT fdT ["_law_box_here", "_law_wide"] spTake) (kT : PySem.W.keepIn K (.ref fT) = true) (bT : Binds K fdT ["_law_box_here", "_law_wide"] []) (gT : mg "_law_take" = some (.ref fT)) :
    FnOk P w K mg base CX0 2 f fd ["_law_box_here", "_law_k"] spRowAt := by
  refine F.ok scLRowAt (fun vs H Q E h => ?_) (fun cdv A outer s H vs Q E hr h => ?_)
  · obtain ⟨l, k, rfl, _⟩ := h
    rfl
  · obtain ⟨l, k, rfl, hb, hk0, hk, q⟩ := h
    refine ⟨_, pss_one (ps_ret (pe_ix ix_list (pe_lst (pa_cons (pe_op op_sub (pv 1) pe_int) (pa_cons (pe_call GT hr (by rfl) gT kT bT .nil pass0 (pa_cons (pv 0) (pa_cons (pv 1) pa_nil))) pa_nil))) (pe_call GT hr (by rfl) gT kT bT .nil pass0 (pa_cons (pv 0) (pa_cons pe_int pa_nil))) (fun _ _ => rfl))), ?_⟩
    refine ⟨iv k, rfl, _, _, rfl, rfl, .ref l, rfl, iv k, rfl, l, k, rfl, hk0, by omega, hb, fun d o hd bo => ?_⟩
    have bt1 : But l H (upd H l o) := But.upd
    generalize upd H l o = H1 at bt1 bo
    refine ⟨by show 2 ≤ sizeLine; decide, fun p np => ?_⟩
    have nlp : l ≠ p := by
      obtain ⟨x, y, e, _⟩ := bo
      exact ne_of_none e np
    refine ⟨.ref l, rfl, l, 2, rfl, by decide, by decide, (by obtain ⟨x, y, e, z⟩ := bo; exact ⟨x, y, by rw [upd_ne nlp]; exact e, z⟩), fun d2 o2 hd2 bo2 => ?_⟩
    have bt2 : But l H (upd (upd H1 p (.lst [.int ((k : Int) - 1), iv d])) l o2) := bt1.trans ((But.of (Same.new np)).trans But.upd)
    have hp2 : (upd (upd H1 p (.lst [.int ((k : Int) - 1), iv d])) l o2) p = some (.lst [.int ((k : Int) - 1), iv d]) := by rw [upd_ne (Ne.symm nlp), upd_same]
    have e1 : V.int ((k : Int) - 1) = iv (k - 1) := congrArg V.int (by omega)
    cases d2 with
    | zero =>
      refine ⟨p, _, _, _, rfl, rfl, SqL.of hp2, (atI_nat (j := 0) rfl), ?_⟩
      have z := q _ (k - 1) bt2 bo2 (by omega)
      rw [← e1] at z
      exact z
    | succ d2 =>
      obtain rfl : d2 = 0 := by omega
      refine ⟨p, _, _, _, rfl, rfl, SqL.of hp2, (atI_nat (j := 1) rfl), ?_⟩
      exact q _ d bt2 bo2 hd
end
end Cw
set_option Elab.async false
set_option linter.all false
set_option maxRecDepth 100000
set_option maxHeartbeats 4000000
/-! _law_expression -/
namespace Cw
open PySem PySem.Spec PyProof.Rows L2 Kw
theorem BoxAt.stay {H H' : Hp} {l : Addr} (h : BoxAt H l) (e : H' l = H l) : BoxAt H' l := let ⟨x, y, q, z⟩ := h; ⟨x, y, e.trans q, z⟩
theorem BoxAt.ne {H : Hp} {l p : Addr} (h : BoxAt H l) (n : H p = none) : l ≠ p := let ⟨_, _, q, _⟩ := h; ne_of_none q n
theorem BoxAt.new {H : Hp} {l p : Addr} {u : HO} (h : BoxAt H l) (n : H p = none) : BoxAt (upd H p u) l := h.stay (upd_ne (h.ne n))
theorem fits_snoc {k : Nat} {rows : List Kw.Row} {row : Kw.Row} (h : Fits k 0 rows) (f : row.fits k rows.length) : Fits k 0 (rows ++ [row]) := fun i r e => by
  by_cases hi : i < rows.length
  · rw [List.getElem?_append_left hi] at e
    exact h i r e
  · rw [List.getElem?_append_right (by omega)] at e
    have : i - rows.length = 0 := by
      cases q : i - rows.length with
      | zero => rfl
      | succ n => rw [q] at e; simp at e
    rw [this] at e
    cases e
    have : 0 + i = rows.length := by omega
    rw [this]
    exact f
section
variable {P : Program} {w : World} {K : PySem.W.Frag} {mg : Str → Option Value} {base : Heap}
def spExpr : Sp := fun vs H Q _ => ∃ (l : Addr) (ls : Str), vs = [.ref l, .str ls, .int 8] ∧ BoxAt H l ∧ 0 < ls.length ∧ ls.length ≤ 100 ∧
  ∀ H' v rows, But l H H' → RowsAt ls.cps.toList H' v rows → Fits ls.length 0 rows → rows ≠ [] → rows.length ≤ 8 → Q v H'
theorem ok_expr {f fT fR : Addr} {fd fdT fdR : FuncData} (F : Fun K "_law_expression" "_law_expression" sLExpression f fd) (GT : FnOk P w K mg base CX0 1 fT fdT ["_law_box_here", "_law_wide"] spTake) (kT : PySem.W.keepIn K (.ref fT) = true) (bT : Binds K fdT ["_law_box_here", "_law_wide"] []) (gT : mg "_law_take" = some (.ref fT))
    (GR : FnOk P w K mg base CX0 2 fR fdR ["_law_box_here", "_law_k"] spRowAt) (kR : PySem.W.keepIn K (.ref fR) = true) (bR : Binds K fdR ["_law_box_here", "_law_k"] []) (gR : mg "_law_row_at" = some (.ref fR)) (mrng : mg "range" = none) (mlen : mg "len" = none) (mtup : mg "tuple" = none) :
    FnOk P w K mg base CX0 3 f fd ["_law_box_here", "_law_letters_here", "_law_most"] spExpr := by
  refine F.ok scLExpression (fun vs H Q E h => ?_) (fun cdv A outer s H vs Q E hr h => ?_)
  · obtain ⟨l, ls, rfl, _⟩ := h
    rfl
  · obtain ⟨l, ls, rfl, hb, hk0, hk, q⟩ := h
    have nd := scLExpression.nd
    have hr1 := hr.mono (j := 1) (by decide)
    refine ⟨_, pss_cons (ps_set (i := 3) nd rfl (.inl rfl) (pe_lst pa_nil))
      (pss_cons (ps_for PassesOwn.never rfl (pi_range1 rfl mrng (pa_cons (pe_op op_add pe_int (pe_call GT hr1 (by rfl) gT kT bT .nil pass0 (pa_cons (pv 0) (pa_cons (pv 2) pa_nil)))) pa_nil)) (pg_name (i := 4) nd rfl (.inl rfl))
        (pss_cons (ps_set (i := 5) nd rfl (.inl rfl) (pe_call GT hr1 (by rfl) gT kT bT .nil pass0 (pa_cons (pv 0) (pa_cons pe_int pa_nil))))
        (pss_one (ps_if (PW.pt (pw_or (pt_cmpR op_eq (pv 4) pe_int (nomark _)) (pw_or1 (pt_cmpR op_lt (pv 5) pe_int (nomark _)))))
          (pss_cons (ps_set (i := 6) nd rfl (.inl rfl) (pe_lst (pa_cons (pe_tup (pa_cons pe_str (pa_cons (pe_ix ix_str (pv 1) (pe_call GT hr1 (by rfl) gT kT bT .nil pass0 (pa_cons (pv 0) (pa_cons (pe_callB call_len (by rfl) mlen PySem.boot_len (pa_cons (pv 1) pa_nil)) pa_nil))) (fun _ _ => rfl)) pa_nil))) (pa_cons (pe_tup (pa_cons pe_str pa_nil)) (pa_cons (pe_tup (pa_cons pe_str pa_nil)) pa_nil)))))
          (pss_one (ps_expr (pe_bm PySem.F.plainAttrs_list PySem.F.slot_list_append PySem.F.type_list_append mt_append (pv 3) (pa_cons (pe_ix ix_list (pv 6) (pe_ix ix_list (pe_lst (pa_cons pe_int (pa_cons pe_int (pa_cons pe_int (pa_cons pe_int (pa_cons pe_int (pa_cons pe_int pa_nil)))))))
            (pe_call GT hr1 (by rfl) gT kT bT .nil pass0 (pa_cons (pv 0) (pa_cons pe_int pa_nil))) (fun _ _ => rfl)) (fun _ _ => rfl)) pa_nil)))))
          (pss_one (ps_if (pt_cmpR op_lt (pv 5) pe_int (nomark _))
            (pss_one (ps_expr (pe_bm PySem.F.plainAttrs_list PySem.F.slot_list_append PySem.F.type_list_append mt_append (pv 3) (pa_cons (pe_tup (pa_cons pe_str (pa_cons (pe_call GR hr (by rfl) gR kR bR .nil pass0 (pa_cons (pv 0) (pa_cons (pv 4) pa_nil))) pa_nil))) pa_nil))))
            (pss_cons (ps_set (i := 7) nd rfl (.inl rfl) (pe_ix ix_list (pe_lst (pa_cons pe_str (pa_cons pe_str (pa_cons pe_str (pa_cons pe_str (pa_cons pe_str (pa_cons pe_str pa_nil))))))) (pe_op op_sub (pv 5) pe_int) (fun _ _ => rfl)))
            (pss_one (ps_expr (pe_bm PySem.F.plainAttrs_list PySem.F.slot_list_append PySem.F.type_list_append mt_append (pv 3) (pa_cons (pe_tup (pa_cons (pv 7) (pa_cons (pe_call GR hr (by rfl) gR kR bR .nil pass0 (pa_cons (pv 0) (pa_cons (pv 4) pa_nil))) (pa_cons (pe_call GT hr1 (by rfl) gT kT bT .nil pass0 (pa_cons (pv 0) (pa_cons (pv 4) pa_nil))) pa_nil)))) pa_nil)))))))))))
      (pss_one (ps_ret (pe_callTy call_tuple_of (by rfl) mtup bTuple (pa_cons (pv 3) pa_nil))))), ?_⟩
    refine ⟨by show 0 ≤ sizeLine; decide, fun rl nrl => ?_⟩
    have nlr : l ≠ rl := hb.ne nrl
    have hb1 : BoxAt (upd H rl (.lst [])) l := hb.new nrl
    refine ⟨.ref l, rfl, .int 8, rfl, l, 8, rfl, by decide, by decide, hb1, fun d o hd bo => ?_⟩
    refine ⟨1, d, rfl, rfl, (1 : Int) + d, rfl, by omega, by omega, ?_⟩
    have et : ((1 : Int) + d).toNat = 1 + d := by omega
    rw [et]
    let Iv : Nat → L2.St → Hp → Prop := fun i σ' H' => ∃ (vr : List V) (rows : List Kw.Row) (y4 y5 y6 y7 : Option V), σ' = [some (.ref l), some (.str ls), some (.int 8), some (.ref rl), y4, y5, y6, y7] ∧ But l H H' ∧ BoxAt H' l ∧ H' rl = some (.lst vr) ∧ Paired (RowAt ls.cps.toList H') vr rows ∧ rows.length = i ∧ Fits ls.length 0 rows
    refine for_range (n := 1 + d) Iv
      ⟨[], [], none, none, none, none, rfl, (But.of (Same.new nrl)).trans But.upd, bo, by rw [upd_ne (Ne.symm nlr), upd_same], .nil, rfl, fun i r e => by simp at e⟩ (fun i σ' H' hi hP => ?_) (fun σ' H' hP => ?_)
    · obtain ⟨vr, rows, y4, y5, y6, y7, rfl, bt, bo', hrl, hrows, hlen, hfit⟩ := hP
      have z : (0 : Int) + (i : Int) = (i : Int) := Int.zero_add _
      rw [z]
      have hvl : vr.length = rows.length := Paired.length hrows
      have fin : ∀ (H4 : Hp) (v : V) (row : Kw.Row) (z5 z6 z7 : Option V), But l H' H4 → BoxAt H4 l → RowAt ls.cps.toList H4 v row → row.fits ls.length i → H4 rl = some (.lst vr) → Iv (i + 1) [some (.ref l), some (.str ls), some (.int 8), some (.ref rl), some (iv i), z5, z6, z7] (upd H4 rl (.lst (vr ++ [v]))) := fun H4 v row z5 z6 z7 b4 bo4 hv hf h4 => by
        have ts := ts_lst (u := .lst (vr ++ [v])) h4
        exact ⟨_, rows ++ [row], _, _, _, _, rfl, (bt.trans b4).set nrl, bo4.stay (upd_ne nlr), upd_same, Paired.snoc (Paired.mapP hrows fun _ _ z => z.tst ((b4.tst bo').trans ts)) (hv.tst ts), by rw [List.length_append, hlen]; rfl, fits_snoc hfit (by rw [hlen]; exact hf)⟩
      have keep : ∀ {H4 : Hp}, But l H' H4 → H4 rl = some (.lst vr) := fun b => b rl _ (Ne.symm nlr) hrl
      have sz : vr.length < sizeLine := small (by omega)
      refine ⟨.ref l, rfl, l, 12, rfl, by decide, by decide, bo', fun kd o1 hkd bo1 => ?_⟩
      have b1 : But l H' (upd H' l o1) := But.upd
      generalize upd H' l o1 = H1 at b1 bo1
      -- if k == 0 or kind < 4
      refine ⟨iv i, rfl, rfl, _, rfl, ?_⟩
      have h1r := keep b1
      by_cases hc : i = 0 ∨ kd < 4
      · rcases Nat.eq_zero_or_pos i with h0 | h0
        all_goals first
          | refine iteP (decide_eq_true (by rw [h0]; rfl)) (iteP rfl ?_)
          | refine iteN (decide_eq_false fun e => by have := V.int.inj e; omega) ⟨iv kd, rfl, _, _, rfl, rfl, _, rfl, iteP (decide_eq_true (by omega)) ?_⟩
        all_goals
          refine ⟨.str ls, rfl, .ref l, rfl, .str ls, rfl, .str ls, ls.length, rfl, ⟨small' (by omega), rfl⟩, l, ls.length, rfl, hk0, by omega, bo1, fun d2 o2 hd2 bo2 => ?_⟩
          have b2 : But l H' (upd H1 l o2) := b1.trans But.upd
          generalize upd H1 l o2 = H2 at b2 bo2
          have hdl : d2 < ls.cps.toList.length := by rw [Array.length_toList]; exact hd2
          refine ⟨ls, (d2 : Int), ls.cps.toList.getD d2 0, rfl, rfl, small' (by omega), atI_nat (by rw [List.getD_eq_getElem?_getD, List.getElem?_eq_getElem hdl]; rfl), ?_⟩
          refine ⟨by show 2 ≤ sizeLine; decide, fun t1 nt1 => ⟨by show 1 ≤ sizeLine; decide, fun t2 nt2 => ⟨by show 1 ≤ sizeLine; decide, fun t3 nt3 => ⟨by show 3 ≤ sizeLine; decide, fun lb nlb => ?_⟩⟩⟩⟩
          have e3 : Same (upd H2 t1 (.tup [.str "letter", sg (ls.cps.toList.getD d2 0)])) (upd (upd (upd (upd H2 t1 (.tup [.str "letter", sg (ls.cps.toList.getD d2 0)])) t2 (.tup [.str "blank"])) t3 (.tup [.str "nothing"])) lb (.lst [.ref t1, .ref t2, .ref t3])) := (Same.new nt2).trans ((Same.new nt3).trans (Same.new nlb))
          have e1 : Same H2 (upd H2 t1 (.tup [.str "letter", sg (ls.cps.toList.getD d2 0)])) := Same.new nt1
          have h1 := e3 t1 _ upd_same
          have h2 := ((Same.new nt3).trans (Same.new nlb) : Same (upd (upd H2 t1 (.tup [.str "letter", sg (ls.cps.toList.getD d2 0)])) t2 (.tup [.str "blank"])) (upd (upd (upd (upd H2 t1 (.tup [.str "letter", sg (ls.cps.toList.getD d2 0)])) t2 (.tup [.str "blank"])) t3 (.tup [.str "nothing"])) lb (.lst [.ref t1, .ref t2, .ref t3]))) t2 _ upd_same
          have h3 := (Same.new nlb : Same (upd (upd (upd H2 t1 (.tup [.str "letter", sg (ls.cps.toList.getD d2 0)])) t2 (.tup [.str "blank"])) t3 (.tup [.str "nothing"])) (upd (upd (upd (upd H2 t1 (.tup [.str "letter", sg (ls.cps.toList.getD d2 0)])) t2 (.tup [.str "blank"])) t3 (.tup [.str "nothing"])) lb (.lst [.ref t1, .ref t2, .ref t3]))) t3 _ upd_same
          have hlb : (upd (upd (upd (upd H2 t1 (.tup [.str "letter", sg (ls.cps.toList.getD d2 0)])) t2 (.tup [.str "blank"])) t3 (.tup [.str "nothing"])) lb (.lst [.ref t1, .ref t2, .ref t3])) lb = some (.lst [.ref t1, .ref t2, .ref t3]) := upd_same
          have s3 := e1.trans e3
          generalize upd (upd (upd (upd H2 t1 (.tup [.str "letter", sg (ls.cps.toList.getD d2 0)])) t2 (.tup [.str "blank"])) t3 (.tup [.str "nothing"])) lb (.lst [.ref t1, .ref t2, .ref t3]) = H3 at h1 h2 h3 hlb s3
          have b3 : But l H' H3 := b2.trans (But.of s3)
          have bo3 : BoxAt H3 l := let ⟨x, y, e, z⟩ := bo2; ⟨x, y, s3 _ _ e, z⟩
          refine ⟨.ref rl, rfl, .inl ⟨rfl, _, SqL.of (keep b3)⟩, .ref lb, rfl, by show 6 ≤ sizeLine; decide, fun l6 nl6 => ?_⟩
          refine ⟨.ref l, rfl, l, 6, rfl, by decide, by decide, bo3.new nl6, fun d6 o6 hd6 bo6 => ?_⟩
          have nl6l : l ≠ l6 := bo3.ne nl6
          have hl6 : (upd (upd H3 l6 (.lst [.int 0, .int 0, .int 0, .int 0, .int 1, .int 2])) l o6) l6 = some (.lst [.int 0, .int 0, .int 0, .int 0, .int 1, .int 2]) := by rw [upd_ne (Ne.symm nl6l), upd_same]
          have b4 : But l H3 (upd (upd H3 l6 (.lst [.int 0, .int 0, .int 0, .int 0, .int 1, .int 2])) l o6) := (But.of (Same.new nl6)).trans But.upd
          have ts4 := b4.tst bo3
          obtain ⟨j, ej, tj, row, etj, hrow, hf⟩ : ∃ j : Nat, ([.int 0, .int 0, .int 0, .int 0, .int 1, .int 2] : List V)[d6]? = some (iv j) ∧ ∃ (tj : Addr) (row : Kw.Row), ([.ref t1, .ref t2, .ref t3] : List V)[j]? = some (.ref tj) ∧ RowAt ls.cps.toList H3 (.ref tj) row ∧ row.fits ls.length i := by
            have cs : d6 = 0 ∨ d6 = 1 ∨ d6 = 2 ∨ d6 = 3 ∨ d6 = 4 ∨ d6 = 5 := by omega
            rcases cs with rfl | rfl | rfl | rfl | rfl | rfl
            · exact ⟨0, rfl, t1, .letter d2, rfl, ⟨t1, rfl, h1⟩, hd2⟩
            · exact ⟨0, rfl, t1, .letter d2, rfl, ⟨t1, rfl, h1⟩, hd2⟩
            · exact ⟨0, rfl, t1, .letter d2, rfl, ⟨t1, rfl, h1⟩, hd2⟩
            · exact ⟨0, rfl, t1, .letter d2, rfl, ⟨t1, rfl, h1⟩, hd2⟩
            · exact ⟨1, rfl, t2, .blank, rfl, ⟨t2, rfl, h2⟩, True.intro⟩
            · exact ⟨2, rfl, t3, .nothing, rfl, ⟨t3, rfl, h3⟩, True.intro⟩
          have hlb4 := b4 lb _ (fun e => by obtain ⟨x, y, q, _⟩ := bo3; rw [e, q] at hlb; cases hlb) hlb
          refine ⟨l6, _, _, _, rfl, rfl, SqL.of hl6, atI_nat ej, lb, _, _, _, rfl, rfl, SqL.of hlb4, atI_nat etj, ?_⟩
          exact ⟨rl, _, _, rfl, rfl, keep (b3.trans b4), sz, fin _ _ row _ _ _ (b3.trans b4) bo6 (hrow.tst ts4) hf (keep (b3.trans b4))⟩
      · refine iteN (decide_eq_false fun e => by have := V.int.inj e; omega) ⟨iv kd, rfl, _, _, rfl, rfl, _, rfl, iteN (decide_eq_false (by omega)) ?_⟩
        have hi0 : 0 < i := by omega
        refine ⟨iv kd, rfl, _, _, rfl, rfl, _, rfl, ?_⟩
        by_cases h6 : kd < 6
        · refine iteP (decide_eq_true (by omega)) ?_
          refine ⟨.ref rl, rfl, .inl ⟨rfl, _, SqL.of h1r⟩, .ref l, rfl, iv i, rfl, l, i, rfl, bo1, hi0, by omega, fun H2 j b2 bo2 hj => ?_⟩
          refine ⟨by show 2 ≤ sizeLine; decide, fun t nt => ?_⟩
          have b3 := (b1.trans b2).trans (But.of (Same.new (u := .tup [.str "not", iv j]) nt))
          exact ⟨rl, _, _, rfl, rfl, keep b3, sz, fin _ _ (.no j) _ _ _ b3 (bo2.new nt) ⟨t, rfl, upd_same⟩ hj (keep b3)⟩
        · refine iteN (decide_eq_false (by omega)) ?_
          refine ⟨by show 6 ≤ sizeLine; decide, fun l6 nl6 => ?_⟩
          have hl6 : (upd H1 l6 (.lst [.str "behind", .str "behind", .str "behind", .str "or", .str "or", .str "and"])) l6 = some (.lst [.str "behind", .str "behind", .str "behind", .str "or", .str "or", .str "and"]) := upd_same
          have b2 : But l H' (upd H1 l6 (.lst [.str "behind", .str "behind", .str "behind", .str "or", .str "or", .str "and"])) := b1.trans (But.of (Same.new nl6))
          have bo2 := bo1.new (u := .lst [.str "behind", .str "behind", .str "behind", .str "or", .str "or", .str "and"]) nl6
          generalize upd H1 l6 (.lst [.str "behind", .str "behind", .str "behind", .str "or", .str "or", .str "and"]) = H2 at hl6 b2 bo2
          obtain ⟨wd, mk, ew, hmk, hfk⟩ : ∃ (wd : Str) (mk : Nat → Nat → Kw.Row), ([.str "behind", .str "behind", .str "behind", .str "or", .str "or", .str "and"] : List V)[kd - 6]? = some (.str wd) ∧ (∀ a b, rowVs ls.cps.toList (mk a b) = [.str wd, iv a, iv b]) ∧ ∀ a b, a < i → b < i → (mk a b).fits ls.length i := by
            have cs : kd - 6 = 0 ∨ kd - 6 = 1 ∨ kd - 6 = 2 ∨ kd - 6 = 3 ∨ kd - 6 = 4 ∨ kd - 6 = 5 := by omega
            rcases cs with e | e | e | e | e | e <;> rw [e]
            · exact ⟨"behind", .behind, rfl, fun _ _ => rfl, fun _ _ h1 h2 => ⟨h1, h2⟩⟩
            · exact ⟨"behind", .behind, rfl, fun _ _ => rfl, fun _ _ h1 h2 => ⟨h1, h2⟩⟩
            · exact ⟨"behind", .behind, rfl, fun _ _ => rfl, fun _ _ h1 h2 => ⟨h1, h2⟩⟩
            · exact ⟨"or", .or, rfl, fun _ _ => rfl, fun _ _ h1 h2 => ⟨h1, h2⟩⟩
            · exact ⟨"or", .or, rfl, fun _ _ => rfl, fun _ _ h1 h2 => ⟨h1, h2⟩⟩
            · exact ⟨"and", .and, rfl, fun _ _ => rfl, fun _ _ h1 h2 => ⟨h1, h2⟩⟩
          refine ⟨iv kd, rfl, _, _, rfl, rfl, l6, _, ((kd - 6 : Nat) : Int), _, rfl, congrArg V.int (by omega), SqL.of hl6, atI_nat ew, ?_⟩
          refine ⟨.ref rl, rfl, .inl ⟨rfl, _, SqL.of (keep b2)⟩, .str wd, rfl, .ref l, rfl, iv i, rfl, l, i, rfl, bo2, hi0, by omega, fun H3 j b3 bo3 hj => ?_⟩
          refine ⟨.ref l, rfl, iv i, rfl, l, i, rfl, hi0, by omega, bo3, fun d4 o4 hd4 bo4 => ?_⟩
          refine ⟨by show 3 ≤ sizeLine; decide, fun t nt => ?_⟩
          have b5 := ((b2.trans b3).trans But.upd).trans (But.of (Same.new (u := .tup [.str wd, iv j, iv d4]) nt))
          exact ⟨rl, _, _, rfl, rfl, keep b5, sz, fin _ _ (mk j d4) _ _ _ b5 (bo4.new nt) ⟨t, rfl, by rw [hmk]; exact upd_same⟩ (hfk _ _ hj hd4) (keep b5)⟩
    · obtain ⟨vr, rows, y4, y5, y6, y7, rfl, bt, bo', hrl, hrows, hlen, hfit⟩ := hP
      refine ⟨.ref rl, rfl, rl, vr, rfl, .inl ⟨SqL.of hrl, fun t nt => ?_⟩⟩
      refine q _ _ rows (bt.trans (But.of (Same.new nt))) ⟨t, vr, rfl, upd_same, Paired.mapP hrows fun _ _ z => z.tst (Tst.new nt)⟩ hfit (fun e => ?_) (by omega)
      rw [e] at hlen
      simp at hlen
      omega
end
end Cw
set_option Elab.async false
set_option linter.all false
set_option maxRecDepth 100000
set_option maxHeartbeats 4000000
/-! dict(pairs) whose keys are pairs of numbers. -/
namespace Cw
open PySem PySem.Spec PyProof.Rows L2 Kw
theorem stored_true {κ : Type} [DecidableEq κ] : ∀ (ps acc : List (κ × Addr × Value)), (∀ x ∈ acc, x.2.2 = .bool true) → (∀ x ∈ ps, x.2.2 = .bool true) →
    (storedAllH acc ps).map (·.1) = pushAll (acc.map (·.1)) (ps.map (·.1)) ∧ ∀ x ∈ storedAllH acc ps, x ∈ acc ∨ x ∈ ps
  | [], acc, _, _ => ⟨rfl, fun x h => .inl h⟩
  | p :: ps, acc, ha, hp => by
    have hv : p.2.2 = .bool true := hp p List.mem_cons_self
    have step : (storedH acc p.1 p.2.1 p.2.2).map (·.1) = push (acc.map (·.1)) p.1 ∧ ∀ x ∈ storedH acc p.1 p.2.1 p.2.2, x ∈ acc ∨ x = p := by
      by_cases hk : p.1 ∈ acc.map (·.1)
      · cases e : atKey acc p.1 with
        | none =>
          exfalso
          unfold atKey at e
          rw [Option.map_eq_none_iff, List.find?_eq_none] at e
          obtain ⟨q, hq, eq⟩ := List.mem_map.mp hk
          exact e q hq (by simpa using eq)
        | some v =>
          have em : acc.map (putAt p.1 p.2.2) = acc := by
            refine (List.map_congr_left fun x hx => ?_).trans (List.map_id acc)
            unfold putAt
            split
            · rw [hv, ← ha x hx]
              rfl
            · rfl
          rw [storedH_old e, em]
          exact ⟨(push_in hk).symm, fun x hx => .inl hx⟩
      · have hn : atKey acc p.1 = none := by
          cases e : atKey acc p.1 with
          | none => rfl
          | some v =>
            exfalso
            unfold atKey at e
            obtain ⟨q, hq, _⟩ := Option.map_eq_some_iff.mp e
            have h1 := List.mem_of_find?_eq_some hq
            have h2 : q.1 = p.1 := by simpa using List.find?_some hq
            exact hk (h2 ▸ List.mem_map_of_mem h1)
        rw [storedH_new hn]
        refine ⟨by rw [List.map_append, push_out hk]; rfl, fun x hx => ?_⟩
        rcases List.mem_append.mp hx with z | z
        · exact .inl z
        · exact .inr (by simpa using z)
    have ih := stored_true ps (storedH acc p.1 p.2.1 p.2.2) (fun x hx => by
      rcases step.2 x hx with z | z
      · exact ha x z
      · rw [z]; exact hv) fun x hx => hp x (List.mem_cons_of_mem _ hx)
    refine ⟨?_, fun x hx => ?_⟩
    · show (storedAllH (storedH acc p.1 p.2.1 p.2.2) ps).map (·.1) = _
      rw [ih.1, step.1, List.map_cons, pushAll_cons]
    · rcases ih.2 x hx with z | z
      · rcases step.2 x z with y | y
        · exact .inl y
        · exact .inr (by rw [y]; exact List.mem_cons_self)
      · exact .inr (List.mem_cons_of_mem _ z)
abbrev spK (p : Nat × Nat) : List L2.Key := [.inl (p.1 : Int), .inl (p.2 : Int)]
/-- the list at a holds pairs (key, True) -/
def rDictT : List V → Hp → VK → Prop := fun xs H Q => ∃ (a : Addr) (ts : List Addr) (ks : List (List L2.Key)), xs = [.ref a] ∧ H a = some (.lst (ts.map V.ref)) ∧ ts.length ≤ 4000 ∧
  Paired (fun t k => ∃ b, H t = some (.tup [.ref b, .bl true]) ∧ H b = some (.tup (k.map kV))) ts ks ∧ ∀ p, H p = none → Q (.ref p) (upd H p (.dT ((once ks).map fun k => (k, .bl true))))
theorem pairsT_of {X : Cx} {pins : List (Addr × Obj)} {σ : L2.St} {H : Hp} {s : Shared} (I : Inv X pins σ H s) : ∀ {ts : List Addr} {ks : List (List L2.Key)}, Paired (fun t k => ∃ b, H t = some (.tup [.ref b, .bl true]) ∧ H b = some (.tup (k.map kV))) ts ks →
    ∃ prs : List (List L2.Key × Addr × Value), prs.map (·.1) = ks ∧ (∀ x ∈ prs, H x.2.1 = some (.tup (x.1.map kV)) ∧ x.2.2 = .bool true) ∧ prs.length = ts.length ∧
      ∀ (j : Nat) (q : List L2.Key × Addr × Value), prs[j]? = some q → ∃ t, ts[j]? = some t ∧ s.heap.IsTuple t #[.ref q.2.1, q.2.2]
  | _, _, .nil => ⟨[], rfl, fun x h => by simp at h, rfl, fun j q e => by simp at e⟩
  | _, _, .cons (a := t0) (b := k0) ⟨b, h1, h2⟩ t => by
    obtain ⟨prs, r, ra, hl, hp⟩ := pairsT_of I t
    obtain ⟨_, its, rv, ht⟩ := (show ObjOk X.prog X.w H s.heap t0 (.tup [.ref b, .bl true]) from I.hok t0 _ h1)
    obtain ⟨u, y, ei, ru, ry⟩ := vals2 rv
    subst ei
    obtain rfl : u = Value.ref b := ru
    obtain rfl : y = Value.bool true := ry
    refine ⟨(k0, b, .bool true) :: prs, by rw [List.map_cons, r], fun x hx => ?_, by rw [List.length_cons, List.length_cons, hl], fun j q e => ?_⟩
    · rcases List.mem_cons.mp hx with e | hx
      · subst e; exact ⟨h2, rfl⟩
      · exact ra x hx
    cases j with
    | zero =>
      have e' : (k0, b, Value.bool true) = q := Option.some.inj e
      subst e'
      exact ⟨t0, rfl, ht⟩
    | succ j =>
      obtain ⟨t', e1, e2⟩ := hp j q (by simpa using e)
      exact ⟨t', by simpa using e1, e2⟩
theorem call_dictT {X : Cx} {k : Nat} (hc : X.calm = true) (hr : Room k X.A) : CallR X (.type "dict") rDictT := by
  intro pins s σ H xs us Q I r h
  obtain ⟨a, ts, ks, rfl, ha, hl, hp, q⟩ := h
  obtain ⟨u, eu, rx⟩ := vals1 r
  subst eu
  obtain rfl : u = Value.ref a := rx
  obtain ⟨hz, its, n, rv, ho⟩ := (show ObjOk X.prog X.w H s.heap a (.lst (ts.map V.ref)) from I.hok a _ ha)
  have ei := refs_at rv
  subst ei
  obtain ⟨prs, hkeys, hall, hpl, hpr⟩ := pairsT_of I hp
  have hu := hr.units
  refine call_dict_pairsH (knd := tupleKind (mixKind X.prog X.w)) (ps := prs) (PairArg.list a (ts.map Value.ref).toArray (fun j => ts.getD j 0) (prs.map fun q => (Value.ref q.2.1, q.2.2))) (I.ok.hd hc) (by show X.A.units + 1 + 1 < cLine; omega) ⟨⟨_, _, ho, rfl, rfl, rfl⟩, ?_⟩ ⟨by rw [List.length_map], fun i key v e => ?_⟩ (fun h' hk x hx => ?_) (by rw [List.length_map, hpl]; exact small' (by omega)) fun h' tk dd hk => ?_
  · refine ⟨by simp [hpl], fun j key v e => ?_⟩
    rw [List.getElem?_map] at e
    obtain ⟨q', hq', e'⟩ := Option.map_eq_some_iff.mp e
    cases e'
    obtain ⟨t, e1, e2⟩ := hpr j q' hq'
    have et : ts.getD j 0 = t := by rw [List.getD_eq_getElem?_getD, e1]; rfl
    show (List.map Value.ref ts).toArray[j]? = some (Value.ref (ts.getD j 0)) ∧ PairAt s.heap (ts.getD j 0) (Value.ref q'.2.1) q'.2.2
    rw [et]
    exact ⟨by simp [e1], .inl e2⟩
  · have e : (prs.map fun q => (Value.ref q.2.1, q.2.2))[i]? = some (key, v) := e
    rw [List.getElem?_map] at e
    obtain ⟨q', hq', e'⟩ := Option.map_eq_some_iff.mp e
    cases e'
    exact ⟨q'.1, q'.2.1, hq', rfl⟩
  · have kx : (tupleKind (mixKind X.prog X.w)).is s.heap x.1 x.2.1 := key_of I.hok (hall x hx).1
    exact tupleKind_stays.stays (fun b o vs m e hd => hk b o (Nat.ne_of_lt (Heap.lt_size e)) (by simp) e) kx
  · have st := stored_true prs [] (fun x hx => by simp at hx) fun x hx => (hall x hx).2
    generalize hout : storedAllH [] prs = out at dd st
    obtain ⟨o, es, ep, h1, h2, h3, h4, _, h6⟩ := dd
    have hnew : H s.heap.objs.size = none := I.hok.fresh (Nat.le_refl _)
    have hkl : ks.length = ts.length := (Paired.length hp).symm
    have ek : out.map (·.1) = once ks := by
      rw [st.1, hkeys]
      rfl
    have ol : out.length = (once ks).length := by rw [← ek, List.length_map]
    have hol := once_length_le ks
    refine ⟨.ref s.heap.objs.size, upd H s.heap.objs.size (.dT ((once ks).map fun k => (k, .bl true))), I.laid (t' := tk) (fun b o' e => hk b o' (by simp) e) (Nat.le_refl _) (show ObjOk X.prog X.w _ _ _ (.dT ((once ks).map fun k => (k, .bl true))) from ⟨by rw [List.length_map]; exact small' (by omega), beq_eq_false_iff_ne.mpr (Nat.ne_of_gt I.big), out, paired_of (by rw [List.length_map, ol]) fun i x y ex ey => ?_, o, es, ep, h1, h2, h3, h4, h6⟩), rfl, q _ hnew⟩
    rw [List.getElem?_map, ← ek, List.getElem?_map, ey] at ex
    have ex := (Option.some.inj ex).symm
    subst ex
    have ym : y ∈ prs := by
      rcases st.2 y (List.mem_of_getElem? ey) with z | z
      · simp at z
      · exact z
    obtain ⟨a1, a2⟩ := hall y ym
    refine ⟨rfl, ?_, a2⟩
    rw [upd_ne (ne_of_none a1 hnew)]
    exact a1
end Cw
set_option Elab.async false
set_option linter.all false
set_option maxRecDepth 100000
set_option maxHeartbeats 4000000
/-! Comprehensions with a test. -/
namespace Cw
open PySem PySem.Spec PyProof.Rows L2 Kw
section
variable {K : PySem.W.Frag} {a : Addr} {xs : List V} {g : TG} {tt : TT} {te : TE} {vs : List Nat} {σ : L2.St} {H1 : Hp} {D : Addr} {Qd : Hp → Prop}
/-- [x for x in xs if ..]: the items that a test keeps -/
theorem lc_filter {β : Type} {Rel : V → β → Prop} {S : List β} (p : β → Bool) (hp : Paired Rel xs S) (hn : H1 D = none) (hsq : ∀ H, Same H1 H → SqL K H a xs) (hz : xs.length ≤ sizeLine)
    (hs : ∀ x b, Rel x b → b ∈ S → ∀ (H : Hp) (R : VK) (N : Hp → Prop), Same H1 H → (p b = true → ∀ H4, Same H H4 → R x H4) → (p b = false → ∀ H4, Same H H4 → N H4) →
      g x (wipe σ vs) H fun σ2 H2 => wipe σ2 vs = wipe σ vs ∧ tt σ2 H2 fun b H3 => if b = true then te σ2 H3 R else N H3)
    (hd : ∀ H ys, Same H1 H → H D = some (.lst ys) → Paired Rel ys (S.filter p) → Qd H) :
    ∃ W : Nat → Nat → Hp → Prop, (∃ m, W 0 m (upd H1 D (.lst []))) ∧ ∀ i m H, W i m H →
      ((Itl K a).stop i H ∧ Qd H) ∨ ((Itl K a).go i H ∧ ∃ Nx : Hp → Prop, (∀ H', Nx H' → ∃ m', m' < m ∧ W (i + 1) m' H') ∧ ∀ x H', (Itl K a).yld i H x H' → g x (wipe σ vs) H' fun σ2 H2 => wipe σ2 vs = wipe σ vs ∧ tt σ2 H2 fun b H3 =>
        if b = true then te σ2 H3 fun y H4 => ∃ acc, H4 D = some (.lst acc) ∧ acc.length < sizeLine ∧ Nx (upd H4 D (.lst (acc ++ [y]))) else Nx H3) := by
  refine lc_list (K := K) (a := a) (xs := xs) (D := D) (σ := σ) (vs := vs) (g := g) (tt := tt) (te := te) (fun i H => Same H1 H ∧ ∃ acc, H D = some (.lst acc) ∧ acc.length ≤ i ∧ Paired Rel acc ((S.take i).filter p)) ⟨Same.new hn, [], upd_same, Nat.le_refl _, .nil⟩ (fun i H _ q => hsq H q.1) (fun i x H hx q => ?_) (fun H q => ?_)
  · obtain ⟨s0, acc, e, l, fa⟩ := q
    obtain ⟨b, hb, rb⟩ := paired_getL hp i x hx
    have hi := (List.getElem?_eq_some_iff.mp hx).1
    have tk : S.take (i + 1) = S.take i ++ [b] := by rw [List.take_add_one, hb]; rfl
    refine hs x b rb (List.mem_of_getElem? hb) H _ _ s0 (fun pb H4 s4 => ?_) fun pb H4 s4 => ?_
    · refine ⟨acc, s4 _ _ e, by omega, (s0.trans s4).upd hn, acc ++ [x], upd_same, by rw [List.length_append, List.length_singleton]; omega, ?_⟩
      rw [tk, List.filter_append, List.filter_cons, if_pos pb]
      exact Paired.snoc fa rb
    · refine ⟨s0.trans s4, acc, s4 _ _ e, by omega, ?_⟩
      rw [tk, List.filter_append, List.filter_cons, if_neg (by rw [pb]; decide), List.filter_nil, List.append_nil]
      exact fa
  · obtain ⟨s0, acc, e, l, fa⟩ := q
    rw [Paired.length hp, List.take_length] at fa
    exact hd H acc s0 e fa
/-- .. over a range, the items new -/
theorem lc_filterR {lo : Int} {n : Nat} (p : Nat → Bool) (F : Nat → V → Hp → Prop) (hF : ∀ i y H H', F i y H → Tst H H' → F i y H') (hn : H1 D = none) (hz : n ≤ sizeLine)
    (hs : ∀ i, i < n → ∀ (H : Hp) (R : VK) (N : Hp → Prop), Same H1 H → (p i = true → ∀ y H4, Same H H4 → F i y H4 → R y H4) → (p i = false → ∀ H4, Same H H4 → N H4) →
      g (.int (lo + i)) (wipe σ vs) H fun σ2 H2 => wipe σ2 vs = wipe σ vs ∧ tt σ2 H2 fun b H3 => if b = true then te σ2 H3 R else N H3)
    (hd : ∀ H ys, Same H1 H → H D = some (.lst ys) → Paired (fun y i => F i y H) ys ((List.range n).filter p) → Qd H) :
    ∃ W : Nat → Nat → Hp → Prop, (∃ m, W 0 m (upd H1 D (.lst []))) ∧ ∀ i m H, W i m H →
      ((Itr lo n).stop i H ∧ Qd H) ∨ ((Itr lo n).go i H ∧ ∃ Nx : Hp → Prop, (∀ H', Nx H' → ∃ m', m' < m ∧ W (i + 1) m' H') ∧ ∀ x H', (Itr lo n).yld i H x H' → g x (wipe σ vs) H' fun σ2 H2 => wipe σ2 vs = wipe σ vs ∧ tt σ2 H2 fun b H3 =>
        if b = true then te σ2 H3 fun y H4 => ∃ acc, H4 D = some (.lst acc) ∧ acc.length < sizeLine ∧ Nx (upd H4 D (.lst (acc ++ [y]))) else Nx H3) := by
  refine lc_range (lo := lo) (n := n) (D := D) (σ := σ) (vs := vs) (g := g) (tt := tt) (te := te) (fun i H => Same H1 H ∧ ∃ acc, H D = some (.lst acc) ∧ acc.length ≤ i ∧ Paired (fun y i => F i y H) acc ((List.range i).filter p)) ⟨Same.new hn, [], upd_same, Nat.le_refl _, .nil⟩ (fun i H hi q => ?_) (fun H q => ?_)
  · obtain ⟨s0, acc, e, l, fa⟩ := q
    refine hs i hi H _ _ s0 (fun pb y H4 s4 f4 => ?_) fun pb H4 s4 => ?_
    · have e4 := s4 _ _ e
      have ts := ts_lst (u := .lst (acc ++ [y])) e4
      refine ⟨acc, e4, by omega, (s0.trans s4).upd hn, acc ++ [y], upd_same, by rw [List.length_append, List.length_singleton]; omega, ?_⟩
      rw [List.range_succ, List.filter_append, List.filter_cons, if_pos pb]
      exact Paired.snoc (Paired.mapP fa fun _ _ z => hF _ _ _ _ z (s4.tst.trans ts)) (hF _ _ _ _ f4 ts)
    · refine ⟨s0.trans s4, acc, s4 _ _ e, by omega, ?_⟩
      rw [List.range_succ, List.filter_append, List.filter_cons, if_neg (by rw [pb]; decide), List.filter_nil, List.append_nil]
      exact Paired.mapP fa fun _ _ z => hF _ _ _ _ z s4.tst
  · obtain ⟨s0, acc, e, l, fa⟩ := q
    exact hd H acc s0 e fa
end
/-! ### spans -/
def SpAt (H : Hp) (v : V) (p : Nat × Nat) : Prop := ∃ q, v = .ref q ∧ H q = some (.tup [iv p.1, iv p.2])
theorem SpAt.tst {H H' : Hp} {v : V} {p : Nat × Nat} (h : SpAt H v p) (s : Tst H H') : SpAt H' v p := let ⟨q, e, z⟩ := h; ⟨q, e, s _ _ z⟩
/-- the dict of the spans of L -/
def SpD (H : Hp) (v : V) (L : List (Nat × Nat)) : Prop := ∃ d, v = .ref d ∧ H d = some (.dT (L.map fun p => (spK p, .bl true)))
theorem SpD.same {H H' : Hp} {v : V} {L : List (Nat × Nat)} (h : SpD H v L) (s : Same H H') : SpD H' v L := let ⟨d, e, z⟩ := h; ⟨d, e, s _ _ z⟩
theorem spK_inj {p q : Nat × Nat} (h : spK p = spK q) : p = q := by
  obtain ⟨a, b⟩ := p
  obtain ⟨c, d⟩ := q
  injection h with h1 h2
  injection h2 with h2 _
  have e1 : a = c := Int.ofNat_inj.mp (Sum.inl.inj h1)
  have e2 : b = d := Int.ofNat_inj.mp (Sum.inl.inj h2)
  rw [e1, e2]
theorem val_spans (L : List (Nat × Nat)) (p : Nat × Nat) : (valV (L.map fun p => (spK p, V.bl true)) (spK p)).isSome = decide (p ∈ L) := by
  induction L with
  | nil => simp [valV]
  | cons x L ih =>
    rw [List.map_cons]
    by_cases e : x = p
    · rw [valV_pos (by rw [e])]
      simp [e]
    · rw [valV_neg (fun z => e (spK_inj z)), ih]
      have : ¬ p = x := fun z => e z.symm
      simp [this]
/-- what the dict at d tells of a span; d may be locked -/
theorem sp_get {H : Hp} {d b : Addr} {L : List (Nat × Nat)} {p : Nat × Nat} (h : Rd H d (.dT (L.map fun p => (spK p, .bl true)))) (hb : H b = some (.tup [iv p.1, iv p.2])) : DGet H d (.ref b) (valV (L.map fun p => (spK p, V.bl true)) (spK p)) :=
  .inr ⟨_, spK p, b, h, rfl, hb, rfl⟩
theorem once_inj {α β : Type} [DecidableEq α] [DecidableEq β] {f : α → β} (h : ∀ x y, f x = f y → x = y) (l : List α) : once (l.map f) = (once l).map f := (pushAll_map h (ts := l) (l := [])).symm
end Cw
set_option Elab.async false
set_option linter.all false
set_option maxRecDepth 100000
set_option maxHeartbeats 8000000
/-! _law_told_rows, _law_tells -/
namespace Cw
open PySem PySem.Spec PyProof.Rows L2 Kw
/-- all spans of a text of n signs -/
def allSp (n : Nat) : List (Nat × Nat) := (List.range (n + 1)).flatMap fun i => (List.range (n + 1 - i)).map fun t => (i, i + t)
theorem mem_allSp {n i j : Nat} : (i, j) ∈ allSp n ↔ i ≤ j ∧ j ≤ n := by
  unfold allSp
  simp only [List.mem_flatMap, List.mem_range, List.mem_map]
  constructor
  · rintro ⟨a, ha, t, ht, e⟩
    cases e
    omega
  · intro h
    exact ⟨i, by omega, j - i, by omega, by rw [show i + (j - i) = j by omega]⟩
theorem allSp_len (n : Nat) (h : n ≤ 10) : (allSp n).length ≤ 121 := by
  unfold allSp
  rw [List.length_flatMap]
  have : ∀ l : List Nat, (∀ i ∈ l, i ≤ n) → (l.map fun i => ((List.range (n + 1 - i)).map fun t => (i, i + t)).length).sum ≤ 11 * l.length := fun l => by
    induction l with
    | nil => intro _; simp
    | cons x l ih =>
      intro hl
      have h1 := ih fun i hi => hl i (List.mem_cons_of_mem _ hi)
      rw [List.map_cons, List.sum_cons, List.length_cons, List.length_map, List.length_range]
      omega
  have h2 := this (List.range (n + 1)) fun i hi => by rw [List.mem_range] at hi; omega
  rw [List.length_range] at h2
  omega
/-- the spans that a language tells -/
def TellsL (W : List Nat) (L : List (Nat × Nat)) (P : Lang) : Prop := ∀ i j, (i, j) ∈ L ↔ i ≤ j ∧ j ≤ W.length ∧ P (seg W i j)
theorem TellsL.few {W : List Nat} {L : List (Nat × Nat)} {P : Lang} (h : TellsL W L P) (hn : L.Nodup) (hW : W.length ≤ 10) : L.length ≤ 121 :=
  Nat.le_trans (nodup_sub_length hn fun x hx => by
    obtain ⟨i, j⟩ := x
    have := (h i j).mp hx
    exact mem_allSp.mpr ⟨this.1, this.2.1⟩) (allSp_len W.length hW)
theorem paired_app {α β : Type} {R : α → β → Prop} : ∀ {l l' : List α} {m m' : List β}, Paired R l m → Paired R l' m' → Paired R (l ++ l') (m ++ m')
  | _, _, _, _, .nil, h => h
  | _, _, _, _, .cons r t, h => .cons r (paired_app t h)
theorem cut_seg {tx : Str} {W : List Nat} {g : Nat → Nat} (htx : tx.cps.toList = W.map g) {i j : Nat} (h1 : i ≤ j) (h2 : j ≤ W.length) : cutS tx (some (i : Int)) (some (j : Int)) = ⟨((seg W i j).map g).toArray⟩ := by
  have hn : tx.length = W.length := by
    show tx.cps.size = _
    rw [← Array.length_toList, htx, List.length_map]
  unfold cutS
  rw [HT.sIx_nat, HT.sIx_nat, hn, Nat.min_eq_left h2, Nat.min_eq_left (by omega), htx]
  unfold seg
  rw [List.drop_take, List.map_take, List.map_drop]
theorem getD_inj {l : List Nat} (hn : l.Nodup) {a b : Nat} (ha : a < l.length) (hb : b < l.length) (h : l.getD a 0 = l.getD b 0) : a = b := by
  rw [List.getD_eq_getElem?_getD, List.getD_eq_getElem?_getD, List.getElem?_eq_getElem ha, List.getElem?_eq_getElem hb] at h
  have h : l[a] = l[b] := h
  have h1 := hn.idxOf_getElem a ha
  have h2 := hn.idxOf_getElem b hb
  rw [h] at h1
  exact h1.symm.trans h2
theorem seg_one {ls : Str} (hn : ls.cps.toList.Nodup) {u : List Nat} (hu : Ok ls.length u) {a : Nat} (ha : a < ls.length) : (⟨(u.map fun a => ls.cps.toList.getD a 0).toArray⟩ : Str) = ⟨#[ls.cps.toList.getD a 0]⟩ ↔ u = [a] := by
  have hl : ls.cps.toList.length = ls.length := Array.length_toList
  constructor
  · intro e
    have e := congrArg (fun s : Str => s.cps.toList) e
    have e : u.map (fun a => ls.cps.toList.getD a 0) = [ls.cps.toList.getD a 0] := by simpa using e
    cases u with
    | nil => simp at e
    | cons b u =>
      cases u with
      | nil =>
        have e2 : ls.cps.toList.getD b 0 = ls.cps.toList.getD a 0 := (List.cons.inj e).1
        rw [getD_inj hn (by rw [hl]; exact hu b List.mem_cons_self) (by rw [hl]; exact ha) e2]
      | cons c u => simp at e
  · intro e
    subst e
    rfl
def forBody : Stmt → List Stmt
  | .For _ _ b _ _ => b
  | _ => []
theorem SpD.upd_lst {H : Hp} {v : V} {L : List (Nat × Nat)} {l : Addr} {xs : List V} {u : HO} (h : SpD H v L) (e : H l = some (.lst xs)) : SpD (upd H l u) v L := by
  obtain ⟨d, ev, hd⟩ := h
  exact ⟨d, ev, by rw [upd_ne fun z => by rw [z, e] at hd; cases hd]; exact hd⟩
section
variable {P : Program} {w : World} {K : PySem.W.Frag} {mg : Str → Option Value} {base : Heap}
def Told (H : Hp) (vd : List V) (W : List Nat) (ls : List Lang) : Prop := ∃ ds : List (List (Nat × Nat)), Paired (SpD H) vd ds ∧ Paired (fun L l => TellsL W L l ∧ L.Nodup) ds ls
theorem Told.same {H H' : Hp} {vd : List V} {W : List Nat} {ls : List Lang} (h : Told H vd W ls) (s : Same H H') : Told H' vd W ls := let ⟨ds, a, b⟩ := h; ⟨ds, Paired.mapP a fun _ _ z => z.same s, b⟩
theorem Told.len {H : Hp} {vd : List V} {W : List Nat} {ls : List Lang} (h : Told H vd W ls) : vd.length = ls.length := let ⟨_, a, b⟩ := h; (Paired.length a).trans (Paired.length b)
theorem Told.at_ {H : Hp} {vd : List V} {W : List Nat} {ls : List Lang} {i : Nat} (h : Told H vd W ls) (hi : i < ls.length) : ∃ v L, vd[i]? = some v ∧ SpD H v L ∧ TellsL W L (lang ls i) ∧ L.Nodup := by
  obtain ⟨ds, a, b⟩ := h
  obtain ⟨L, eL, hL⟩ := paired_get b i ls[i] (List.getElem?_eq_getElem hi)
  obtain ⟨v, ev, hv⟩ := paired_get a i L eL
  refine ⟨v, L, ev, hv, ?_, hL.2⟩
  have : lang ls i = ls[i] := by
    unfold lang
    rw [List.getD_eq_getElem?_getD, List.getElem?_eq_getElem hi]
    rfl
  rw [this]
  exact hL.1
def spTold (K : PySem.W.Frag) : Sp := fun vs H Q _ => ∃ (x : V) (tx ls : Str) (W : List Nat) (rows : List Kw.Row), vs = [x, .str tx] ∧ RowsAt ls.cps.toList H x rows ∧ Fits ls.length 0 rows ∧ rows.length ≤ 100 ∧ tx.cps.toList = W.map (fun a => ls.cps.toList.getD a 0) ∧ Ok ls.length W ∧ W.length ≤ 10 ∧ ls.cps.toList.Nodup ∧
  ∀ H' p vd, Same H H' → H' p = some (.lst vd) → Told H' vd W (langs [] rows) → Q (.ref p) H'
theorem ok_told {f : Addr} {fd : FuncData} (F : Fun K "_law_told_rows" "_law_told_rows" sLToldRows f fd) (mlen : mg "len" = none) (mrng : mg "range" = none) (mdict : mg "dict" = none) :
    FnOk P w K mg base CX0 1 f fd ["_law_expression_here", "_law_text_here"] (spTold K) := by
  refine F.ok scLToldRows (fun vs H Q E h => ?_) (fun cdv A outer s H vs Q E hr h => ?_)
  · obtain ⟨x, tx, ls, W, rows, rfl, _⟩ := h
    rfl
  · obtain ⟨x, tx, ls, W, rows, rfl, hx, hf, hrl, htx, hW, hWl, hnd, q⟩ := h
    have nd := scLToldRows.nd
    have hu := hu_of hr
    -- found.append(dict(..))
    obtain ⟨tT, hpT, hrT⟩ : ∃ t, PSs (cxOf CX0 P w K mg base nLToldRows "_law_told_rows" (defScope sLToldRows) f cdv A outer s H E).nox ((forBody ((defBody sLToldRows).getD 3 (.Pass ⟨0, 0, 0, 0⟩))).drop 1) t ∧
        ∀ (D : Ends) (H4 : Hp) (fl lb sl r : Addr) (vd vsm : List V) (L : List (Nat × Nat)) (ahead : List Lang) (l : Lang) (y4 y5 : Option V), H4 fl = some (.lst vd) → vd.length ≤ 100 → Told H4 vd W ahead → H4 lb = some (.lst vsm) → Paired (SpAt H4) vsm L → L.length ≤ 4000 → TellsL W L l → fl ≠ lb →
          (∀ H5 v, (∀ b o, b ≠ fl → H4 b = some o → H5 b = some o) → H5 fl = some (.lst (vd ++ [v])) → Told H5 (vd ++ [v]) W (ahead ++ [l]) → D.nx [some x, some (.str tx), some (.ref fl), some (.ref sl), y4, y5, some (.ref r), some (.ref lb), none, none] H5) →
          t D [some x, some (.str tx), some (.ref fl), some (.ref sl), y4, y5, some (.ref r), some (.ref lb), none, none] H4 := by
      refine ⟨_, pss_one (ps_expr (pe_bm PySem.F.plainAttrs_list PySem.F.slot_list_append PySem.F.type_list_append mt_append (pv 2) (pa_cons (pe_callTy (call_dictT rfl hr) (by rfl) mdict bDict (pa_cons (pe_lc (own := [("_law_span", 8)]) (g := gName 8) (tt := tYes) rfl nd (piL K (pv 7)) (blkOk_by (own := [("_law_span", 8)]) (N := nLToldRows) (sc := (defScope sLToldRows)) (by decide +kernel)) (fun _ _ _ _ _ => pg_name (i := 8) nd rfl (Or.inl rfl)) (fun _ _ _ _ _ => pts_nil) (fun _ _ _ _ _ => pe_tup (pa_cons (pv 8) (pa_cons (pe_bl) pa_nil)))) pa_nil)) pa_nil))), fun D H4 fl lb sl r vd vsm L ahead l y4 y5 hfl hvd htd hlb hsp hLl htl hne k => ?_⟩
      refine ⟨.ref fl, rfl, .inl ⟨rfl, _, SqL.of hfl⟩, .ref lb, rfl, lb, rfl, ⟨_, SqL.of hlb⟩, fun D5 hD5 => ?_⟩
      have hvl : vsm.length = L.length := Paired.length hsp
      refine lc_of_list (xs := vsm) (fun j y H' => ∀ p, L[j]? = some p → ∃ t b, y = .ref t ∧ H' t = some (.tup [.ref b, .bl true]) ∧ H' b = some (.tup [iv p.1, iv p.2])) (fun i y H1 H2 h st p e => let ⟨t, b, e1, e2, e3⟩ := h p e; ⟨t, b, e1, st _ _ e2, st _ _ e3⟩) hD5 (fun H6 st6 => SqL.of (st6 _ _ hlb)) (by rw [hvl]; exact small' (by omega)) (fun i v hi => ?_) (fun H6 ys st6 hD6 hyl6 hys6 => ?_)
      · intro H6 R S st6 hR
        obtain ⟨p, hp, b, rfl, hb⟩ := paired_getL hsp i v hi
        refine ⟨rfl, ?_⟩
        refine ⟨.ref b, rfl, by show 2 ≤ sizeLine; decide, fun t nt => hR _ _ (Same.new nt) fun p' e => ?_⟩
        rw [hp] at e
        cases e
        exact ⟨t, b, rfl, upd_same, (Same.new nt) _ _ (st6 _ _ hb)⟩
      · obtain ⟨ts, rfl, hts⟩ := refs_list (G := fun j t => ∀ p, L[j]? = some p → ∃ b, H6 t = some (.tup [.ref b, .bl true]) ∧ H6 b = some (.tup [iv p.1, iv p.2])) (ys := ys) fun j y e => by
          have hj := (List.getElem?_eq_some_iff.mp e).1
          have hjL : j < L.length := by omega
          obtain ⟨t, b, e1, e2, e3⟩ := hys6 j y e L[j] (List.getElem?_eq_getElem hjL)
          refine ⟨t, e1, fun p' ep => ?_⟩
          rw [List.getElem?_eq_getElem hjL] at ep
          cases ep
          exact ⟨b, e2, e3⟩
        have tl : ts.length = L.length := by
          rw [List.length_map] at hyl6
          omega
        refine ⟨D5, ts, L.map spK, rfl, hD6, by omega, paired_of (by rw [List.length_map, tl]) fun j t kk e1 e2 => ?_, fun d ndd => ?_⟩
        · rw [List.getElem?_map] at e2
          obtain ⟨p', hp', rfl⟩ := Option.map_eq_some_iff.mp e2
          exact hts j t e1 p' hp'
        · rw [once_inj (fun _ _ e => spK_inj e), List.map_map]
          have s7 : Same H4 (upd H6 d (.dT ((once L).map ((fun k => (k, V.bl true)) ∘ spK)))) := st6.trans (Same.new ndd)
          have hd7 : (upd H6 d (.dT ((once L).map ((fun k => (k, V.bl true)) ∘ spK)))) d = some (.dT ((once L).map ((fun k => (k, V.bl true)) ∘ spK))) := upd_same
          generalize upd H6 d (.dT ((once L).map ((fun k => (k, V.bl true)) ∘ spK))) = H7 at s7 hd7
          have hf7 := s7 _ _ hfl
          refine ⟨fl, vd, .ref d, rfl, rfl, hf7, small (by omega), ?_⟩
          refine k _ (.ref d) (fun b o nb e => by rw [upd_ne nb]; exact s7 _ _ e) upd_same ?_
          obtain ⟨ds, ha, hb⟩ := htd
          refine ⟨ds ++ [once L], Paired.snoc (Paired.mapP ha fun _ _ z => (z.same s7).upd_lst hf7) (SpD.upd_lst (v := .ref d) (L := once L) ⟨d, rfl, hd7⟩ hf7), Paired.snoc hb ⟨fun i j => ?_, once_nodup⟩⟩
          rw [mem_once]
          exact htl i j
    refine ⟨_, pss_cons (ps_set (i := 2) nd rfl (.inr rfl) (pe_lst pa_nil))
      (pss_cons (ps_set (i := 3) nd rfl (.inl rfl) (pe_lst pa_nil))
      (pss_cons (ps_for PassesOwn.never rfl (pi_range1 (by rfl) mrng (pa_cons (pe_op op_add (pe_callB call_len (by rfl) mlen PySem.boot_len (pa_cons (pv 1) pa_nil)) (pe_int)) pa_nil)) (pg_name (i := 4) nd rfl (.inr rfl))
      (pss_one (ps_expr (pe_bm PySem.F.plainAttrs_list PySem.F.slot_list_extend PySem.F.type_list_extend mt_extend (pv 3) (pa_cons (pe_lc (own := [("_law_j", 5)]) (g := gName 5) (tt := tYes) rfl nd (pi_range2 (by rfl) mrng (pa_cons (pv 4) (pa_cons (pe_op op_add (pe_callB call_len (by rfl) mlen PySem.boot_len (pa_cons (pv 1) pa_nil)) (pe_int)) pa_nil))) (blkOk_by (own := [("_law_j", 5)]) (N := nLToldRows) (sc := (defScope sLToldRows)) (by decide +kernel)) (fun _ _ _ _ _ => pg_name (i := 5) nd rfl (Or.inl rfl)) (fun _ _ _ _ _ => pts_nil) (fun _ _ _ _ _ => pe_tup (pa_cons (pv 4) (pa_cons (pv 5) pa_nil)))) pa_nil)))))
      (pss_cons (ps_for PassesOwn.never rfl (pi_tup (pv 0)) (pg_name (i := 6) nd rfl (.inr rfl))
      (pss_cons (ps_if (pt_cmpR op_eq (pe_ix ix_tup (pv 6) (pe_int) (fun _ _ => rfl)) (pe_str) (nomark _)) (pss_one (ps_set (i := 7) nd rfl (.inl rfl) (pe_lst pa_nil))) (pss_one (ps_if (pt_cmpR op_eq (pe_ix ix_tup (pv 6) (pe_int) (fun _ _ => rfl)) (pe_str) (nomark _)) (pss_one (ps_setLc (i := 7) (own := [("_law_span", 8)]) (g := gName 8) rfl nd rfl rfl (sw_true rfl rfl rfl (by decide +kernel)) (piL K (pv 3)) (blkOk_by (own := [("_law_span", 8)]) (N := nLToldRows) (sc := (defScope sLToldRows)) (by decide +kernel)) (fun _ _ _ _ _ => pg_name (i := 8) nd rfl (Or.inl rfl)) (fun _ _ _ _ _ => pts_one (pt_cmpR op_eq (pe_ix (ixT K) (pv 8) (pe_int) (fun _ _ => rfl)) (pe_ix (ixT K) (pv 8) (pe_int) (fun _ _ => rfl)) (nomark _))) (fun _ _ _ _ _ => pv 8))) (pss_one (ps_if (pt_cmpR op_eq (pe_ix ix_tup (pv 6) (pe_int) (fun _ _ => rfl)) (pe_str) (nomark _)) (pss_one (ps_setLc (i := 7) (own := [("_law_span", 8)]) (g := gName 8) rfl nd rfl rfl (sw_true rfl rfl rfl (by decide +kernel)) (piL K (pv 3)) (blkOk_by (own := [("_law_span", 8)]) (N := nLToldRows) (sc := (defScope sLToldRows)) (by decide +kernel)) (fun _ _ _ _ _ => pg_name (i := 8) nd rfl (Or.inl rfl)) (fun _ _ _ _ _ => pts_one (pt_cmpR op_eq (pe_slice sl_str (pv 1) (po_some (pe_ix (ixT K) (pv 8) (pe_int) (fun _ _ => rfl))) (po_some (pe_ix (ixT K) (pv 8) (pe_int) (fun _ _ => rfl)))) (pe_ix (ixT K) (pv 6) (pe_int) (fun _ _ => rfl)) (nomark _))) (fun _ _ _ _ _ => pv 8))) (pss_one (ps_if (pt_cmpR op_eq (pe_ix ix_tup (pv 6) (pe_int) (fun _ _ => rfl)) (pe_str) (nomark _)) (pss_one (ps_setLc (i := 7) (own := [("_law_span", 8)]) (g := gName 8) rfl nd rfl rfl (sw_true rfl rfl rfl (by decide +kernel)) (piL K (pv 3)) (blkOk_by (own := [("_law_span", 8)]) (N := nLToldRows) (sc := (defScope sLToldRows)) (by decide +kernel)) (fun _ _ _ _ _ => pg_name (i := 8) nd rfl (Or.inl rfl)) (fun _ _ _ _ _ => pts_one (pt_cmp (pc_dnotin hu (pv 8) (pe_ix (ixL K) (pv 2) (pe_ix (ixT K) (pv 6) (pe_int) (fun _ _ => rfl)) (fun _ _ => rfl))))) (fun _ _ _ _ _ => pv 8))) (pss_one (ps_if (pt_cmpR op_eq (pe_ix ix_tup (pv 6) (pe_int) (fun _ _ => rfl)) (pe_str) (nomark _)) (pss_one (ps_setLc (i := 7) (own := [("_law_span", 8)]) (g := gName 8) rfl nd rfl rfl (sw_true rfl rfl rfl (by decide +kernel)) (piL K (pv 3)) (blkOk_by (own := [("_law_span", 8)]) (N := nLToldRows) (sc := (defScope sLToldRows)) (by decide +kernel)) (fun _ _ _ _ _ => pg_name (i := 8) nd rfl (Or.inl rfl)) (fun _ _ _ _ _ => pts_one (PW.pt (pw_or (pt_cmp (pc_din hu (pv 8) (pe_ix (ixL K) (pv 2) (pe_ix (ixT K) (pv 6) (pe_int) (fun _ _ => rfl)) (fun _ _ => rfl)))) (pw_or1 (pt_cmp (pc_din hu (pv 8) (pe_ix (ixL K) (pv 2) (pe_ix (ixT K) (pv 6) (pe_int) (fun _ _ => rfl)) (fun _ _ => rfl)))))))) (fun _ _ _ _ _ => pv 8))) (pss_one (ps_if (pt_cmpR op_eq (pe_ix ix_tup (pv 6) (pe_int) (fun _ _ => rfl)) (pe_str) (nomark _)) (pss_one (ps_setLc (i := 7) (own := [("_law_span", 8)]) (g := gName 8) rfl nd rfl rfl (sw_true rfl rfl rfl (by decide +kernel)) (piL K (pv 3)) (blkOk_by (own := [("_law_span", 8)]) (N := nLToldRows) (sc := (defScope sLToldRows)) (by decide +kernel)) (fun _ _ _ _ _ => pg_name (i := 8) nd rfl (Or.inl rfl)) (fun _ _ _ _ _ => pts_one (PW.pt (pw_and (pt_cmp (pc_din hu (pv 8) (pe_ix (ixL K) (pv 2) (pe_ix (ixT K) (pv 6) (pe_int) (fun _ _ => rfl)) (fun _ _ => rfl)))) (pw_and1 (pt_cmp (pc_din hu (pv 8) (pe_ix (ixL K) (pv 2) (pe_ix (ixT K) (pv 6) (pe_int) (fun _ _ => rfl)) (fun _ _ => rfl)))))))) (fun _ _ _ _ _ => pv 8))) (pss_cons (ps_set (i := 7) nd rfl (.inl rfl) (pe_lst pa_nil))
      (pss_one (ps_lock (ps_for PassesOwn.never rfl (pi_keys (pe_ix ix_list (pv 2) (pe_ix ix_tup (pv 6) (pe_int) (fun _ _ => rfl)) (fun _ _ => rfl))) (pg_tup (by rfl) (pgs_cons (pg_name (i := 4) nd rfl (.inr rfl)) (pgs_cons (pg_name (i := 5) nd rfl (.inr rfl)) pgs_nil)))
      (pss_one (ps_expr (pe_bm PySem.F.plainAttrs_list PySem.F.slot_list_extend PySem.F.type_list_extend mt_extend (pv 7) (pa_cons (pe_lc (own := [("_law_k", 9)]) (g := gName 9) rfl nd (pi_range2 (by rfl) mrng (pa_cons (pv 5) (pa_cons (pe_op op_add (pe_callB call_len (by rfl) mlen PySem.boot_len (pa_cons (pv 1) pa_nil)) (pe_int)) pa_nil))) (blkOk_by (own := [("_law_k", 9)]) (N := nLToldRows) (sc := (defScope sLToldRows)) (by decide +kernel)) (fun _ _ _ _ _ => pg_name (i := 9) nd rfl (Or.inl rfl)) (fun _ _ _ _ _ => pts_one (pt_cmp (pc_din hu (pe_tup (pa_cons (pv 5) (pa_cons (pv 9) pa_nil))) (pe_ix (ixL K) (pv 2) (pe_ix (ixT K) (pv 6) (pe_int) (fun _ _ => rfl)) (fun _ _ => rfl))))) (fun _ _ _ _ _ => pe_tup (pa_cons (pv 4) (pa_cons (pv 9) pa_nil)))) pa_nil)))))))))))))))))))
      (hpT)))
      (pss_one (ps_ret (pv 2)))))), ?_⟩
    have hn : tx.length = W.length := by
      show tx.cps.size = _
      rw [← Array.length_toList, htx, List.length_map]
    -- found = []; spans = []
    refine ⟨by show 0 ≤ sizeLine; decide, fun fl nfl => ⟨by show 0 ≤ sizeLine; decide, fun sl nsl => ?_⟩⟩
    have nfs : fl ≠ sl := fun e => by
      rw [← e, upd_same] at nsl
      cases nsl
    rw [upd_ne (Ne.symm nfs)] at nsl
    refine ⟨.str tx, rfl, .str tx, tx.length, rfl, ⟨small' (by omega), rfl⟩, _, _, rfl, rfl, _, rfl, by omega, by omega, ?_⟩
    have et : ((tx.length : Int) + 1).toNat = W.length + 1 := by omega
    rw [et]
    refine for_range (n := W.length + 1) (fun i σ' H' => ∃ (y4 : Option V) (vsp : List V), σ' = [some x, some (.str tx), some (.ref fl), some (.ref sl), y4, none, none, none, none, none] ∧ Same H H' ∧ H' fl = some (.lst []) ∧ H' sl = some (.lst vsp) ∧ Paired (SpAt H') vsp ((List.range i).flatMap fun i => (List.range (W.length + 1 - i)).map fun t => (i, i + t)) ∧ vsp.length ≤ 11 * i)
      ⟨none, [], rfl, ((Same.new nfl).upd nsl), by rw [upd_ne nfs, upd_same], upd_same, .nil, Nat.le_refl _⟩ (fun i σ' H' hi hP => ?_) (fun σ' H' hP => ?_)
    · obtain ⟨y4, vsp, rfl, s1, hf1, hs1, hp1, hl1⟩ := hP
      have z : (0 : Int) + (i : Int) = (i : Int) := Int.zero_add _
      rw [z]
      refine ⟨.ref sl, rfl, .inl ⟨rfl, _, SqL.of hs1⟩, iv i, rfl, .str tx, rfl, .str tx, tx.length, rfl, ⟨small' (by omega), rfl⟩, _, _, rfl, rfl, (i : Int), _, rfl, ⟨by omega, by omega, by omega, by omega⟩, fun D hD => ?_⟩
      have e2 : ((tx.length : Int) + 1 - (i : Int)).toNat = W.length + 1 - i := by omega
      rw [e2]
      refine lc_of_range (lo := (i : Int)) (n := W.length + 1 - i) (fun j y H' => SpAt H' y (i, i + j)) (fun i y H1 H2 h st => h.tst st) hD (small' (by omega)) (fun j hj => ?_) (fun H2 ys st2 hD2 hyl2 hys2 => ?_)
      · intro H2 R S st2 hR
        refine ⟨rfl, ?_⟩
        refine ⟨iv i, rfl, .int ((i : Int) + (j : Int)), rfl, by show 2 ≤ sizeLine; decide, fun t nt => hR _ _ (Same.new nt) ⟨t, rfl, ?_⟩⟩
        rw [upd_same]
        rfl
      · have hs2 := st2 _ _ hs1
        refine ⟨sl, D, vsp, ys, rfl, rfl, hs2, hD2, small' (by omega), ?_⟩
        have ts := ts_lst (u := .lst (vsp ++ ys)) hs2
        refine ⟨_, vsp ++ ys, rfl, (s1.trans st2).upd nsl, by rw [upd_ne nfs]; exact st2 _ _ hf1, upd_same, ?_, by rw [List.length_append]; omega⟩
        rw [List.range_succ, List.flatMap_append, List.flatMap_singleton]
        refine paired_app (Paired.mapP hp1 fun _ _ z => z.tst (st2.tst.trans ts)) (paired_of (by rw [List.length_map, List.length_range, hyl2]) fun j y p e1 e2 => ?_)
        have hj := (List.getElem?_eq_some_iff.mp e1).1
        rw [List.getElem?_map, List.getElem?_range (by omega)] at e2
        cases e2
        exact (hys2 j y e1).tst ts
    · obtain ⟨y4, vsp, rfl, s1, hf1, hs1, hp1, hl1⟩ := hP
      have hp1 : Paired (SpAt H') vsp (allSp W.length) := hp1
      obtain ⟨px, vr, rfl, hpx, hvr⟩ := hx
      refine ⟨.ref px, rfl, px, rfl, ⟨_, SqT.of (s1 _ _ hpx)⟩, ?_⟩
      refine for_tup (xs := vr) (fun i σ' H'' => ∃ (vd : List V) (y4 y5 y6 y7 : Option V), σ' = [some (.ref px), some (.str tx), some (.ref fl), some (.ref sl), y4, y5, y6, y7, none, none] ∧ Same H H'' ∧ H'' fl = some (.lst vd) ∧ H'' sl = some (.lst vsp) ∧ Paired (SpAt H'') vsp (allSp W.length) ∧ Told H'' vd W (langs [] (rows.take i)))
        ⟨[], y4, none, none, none, rfl, s1, hf1, hs1, hp1, [], .nil, .nil⟩ (fun i σ' H'' _ hP => ?_) (fun i v σ' H'' hi hP => ?_) (fun σ' H'' hP => ?_)
      · obtain ⟨_, _, _, _, _, _, s2, _⟩ := hP
        exact SqT.of (s2 _ _ hpx)
      · obtain ⟨vd, y4, y5, y6, y7, rfl, s2, hf2, hs2, hp2, htd⟩ := hP
        obtain ⟨row, hrow, r, rfl, hr0⟩ := paired_getL hvr i v hi
        have hil := (List.getElem?_eq_some_iff.mp hrow).1
        have hr2 := s2 _ _ hr0
        have fr : row.fits ls.length i := by
          have := hf i row hrow
          rw [Nat.zero_add] at this
          exact this
        have la : (langs [] (rows.take i)).length = i := by
          rw [langs_len, List.length_take]
          simp
          omega
        have tk : langs [] (rows.take (i + 1)) = langs [] (rows.take i) ++ [tellsR (langs [] (rows.take i)) row] := by
          rw [List.take_add_one, hrow]
          show langs [] (rows.take i ++ [row]) = _
          rw [langs_app]
          rfl
        have hvd : vd.length ≤ 100 := by
          rw [htd.len, la]
          omega
        generalize hah : langs [] (rows.take i) = ahead at htd la tk
        have fin : ∀ (D : Ends) (H4 : Hp) (lb : Addr) (vsm : List V) (L : List (Nat × Nat)) (y4 y5 : Option V), Same H'' H4 → H4 lb = some (.lst vsm) → Paired (SpAt H4) vsm L → L.length ≤ 4000 → TellsL W L (tellsR ahead row) → fl ≠ lb →
            (∀ σ' H', (∃ (vd : List V) (y4 y5 y6 y7 : Option V), σ' = [some (.ref px), some (.str tx), some (.ref fl), some (.ref sl), y4, y5, y6, y7, none, none] ∧ Same H H' ∧ H' fl = some (.lst vd) ∧ H' sl = some (.lst vsp) ∧ Paired (SpAt H') vsp (allSp W.length) ∧ Told H' vd W (langs [] (rows.take (i + 1)))) → D.nx σ' H') →
            tT D [some (.ref px), some (.str tx), some (.ref fl), some (.ref sl), y4, y5, some (.ref r), some (.ref lb), none, none] H4 := fun D H4 lb vsm L y4 y5 s4 h4 hsp hLl htl hne k => by
          refine hrT D H4 fl lb sl r vd vsm L ahead (tellsR ahead row) y4 y5 (s4 _ _ hf2) hvd (htd.same s4) h4 hsp hLl htl hne fun H5 v k5 hf5 ht5 => k _ _ ?_
          have k25 : Tst H'' H5 := fun b xs e => k5 b _ (fun z => by rw [z, hf2] at e; cases e) (s4 _ _ e)
          refine ⟨_, _, _, _, _, rfl, fun b o e => k5 b o (ne_of_none e nfl) (s4 _ _ (s2 _ _ e)), hf5, k5 sl _ (Ne.symm nfs) (s4 _ _ hs2), Paired.mapP hp2 fun _ _ z => z.tst k25, ?_⟩
          rw [tk]
          exact ht5
        have al := allSp_len W.length hWl
        have out : ∀ (p : Nat × Nat → Bool) (H6 : Hp) (D : Addr) (ys : List V), Same H'' H6 → H6 D = some (.lst ys) → Paired (SpAt H'') ys ((allSp W.length).filter p) → H'' D = none → (∀ i j, i ≤ j → j ≤ W.length → (p (i, j) = true ↔ tellsR ahead row (seg W i j))) → ∀ (y4 y5 : Option V) (D' : Ends),
            (∀ σ' H', (∃ (vd : List V) (y4 y5 y6 y7 : Option V), σ' = [some (.ref px), some (.str tx), some (.ref fl), some (.ref sl), y4, y5, y6, y7, none, none] ∧ Same H H' ∧ H' fl = some (.lst vd) ∧ H' sl = some (.lst vsp) ∧ Paired (SpAt H') vsp (allSp W.length) ∧ Told H' vd W (langs [] (rows.take (i + 1)))) → D'.nx σ' H') →
            tT D' [some (.ref px), some (.str tx), some (.ref fl), some (.ref sl), y4, y5, some (.ref r), some (.ref D), none, none] H6 := fun p H6 D ys s6 h6 hys nD ht y4 y5 D' k => by
          refine fin D' H6 D ys _ y4 y5 s6 h6 (Paired.mapP hys fun _ _ z => z.tst s6.tst) (Nat.le_trans (List.length_filter_le _ _) (by omega)) (fun i j => ?_) (ne_of_none hf2 nD) k
          rw [List.mem_filter, mem_allSp]
          exact ⟨fun h => ⟨h.1.1, h.1.2, (ht i j h.1.1 h.1.2).mp h.2⟩, fun h => ⟨⟨h.1, h.2.1⟩, (ht i j h.1 h.2.1).mpr h.2.2⟩⟩
        cases row with
        | nothing =>
          refine ⟨.ref r, rfl, r, _, _, _, rfl, rfl, SqT.of hr2, (atI_nat (j := 0) rfl), rfl, _, rfl, iteP (decide_eq_true rfl) ?_⟩
          refine ⟨by show 0 ≤ sizeLine; decide, fun lb nlb => ?_⟩
          exact fin _ _ lb [] [] _ _ (Same.new nlb) upd_same .nil (Nat.zero_le _) (fun i j => ⟨fun h => by simp at h, fun h => h.2.2.elim⟩) (ne_of_none hf2 nlb) fun _ _ h => h
        | blank =>
          refine ⟨.ref r, rfl, r, _, _, _, rfl, rfl, SqT.of hr2, (atI_nat (j := 0) rfl), rfl, _, rfl, iteN (decide_eq_false (str_ne (by decide))) ?_⟩
          refine ⟨.ref r, rfl, r, _, _, _, rfl, rfl, SqT.of hr2, (atI_nat (j := 0) rfl), rfl, _, rfl, iteP (decide_eq_true rfl) ?_⟩
          refine ⟨.ref sl, rfl, sl, rfl, ⟨_, SqL.of hs2⟩, fun D hD => ?_⟩
          refine lc_filter (Rel := SpAt H'') (S := allSp W.length) (fun b => decide (b.1 = b.2)) hp2 hD (fun H6 st6 => SqL.of (st6 _ _ hs2)) (by rw [Paired.length hp2]; exact small' (by omega)) (fun v b hv hb H6 R N st6 hR hN => ?_) (fun H6 ys st6 hD6 hys6 => out (fun b => decide (b.1 = b.2)) H6 D ys st6 hD6 hys6 hD (fun i j h1 h2 => ?_) _ _ _ fun _ _ h => h)
          · obtain ⟨q, rfl, hq⟩ := hv
            have hq := st6 _ _ hq
            refine ⟨rfl, ?_⟩
            refine ⟨.ref q, rfl, q, _, _, _, rfl, rfl, SqT.of hq, (atI_nat (j := 0) rfl), .ref q, rfl, q, _, _, _, rfl, rfl, SqT.of hq, (atI_nat (j := 1) rfl), rfl, _, rfl, ?_⟩
            by_cases e : b.1 = b.2
            · exact iteP (decide_eq_true (by rw [e])) ⟨.ref q, rfl, hR (decide_eq_true e) _ (Same.refl _)⟩
            · exact iteN (decide_eq_false fun z => e (Int.ofNat_inj.mp (V.int.inj z))) (hN (decide_eq_false e) _ (Same.refl _))
          · show decide (i = j) = true ↔ seg W i j = []
            rw [decide_eq_true_iff, seg_nil h1 h2]
        | letter a =>
          refine ⟨.ref r, rfl, r, _, _, _, rfl, rfl, SqT.of hr2, (atI_nat (j := 0) rfl), rfl, _, rfl, iteN (decide_eq_false (str_ne (by decide))) ?_⟩
          refine ⟨.ref r, rfl, r, _, _, _, rfl, rfl, SqT.of hr2, (atI_nat (j := 0) rfl), rfl, _, rfl, iteN (decide_eq_false (str_ne (by decide))) ?_⟩
          refine ⟨.ref r, rfl, r, _, _, _, rfl, rfl, SqT.of hr2, (atI_nat (j := 0) rfl), rfl, _, rfl, iteP (decide_eq_true rfl) ?_⟩
          refine ⟨.ref sl, rfl, sl, rfl, ⟨_, SqL.of hs2⟩, fun D hD => ?_⟩
          refine lc_filter (Rel := SpAt H'') (S := allSp W.length) (fun b => decide (seg W b.1 b.2 = [a])) hp2 hD (fun H6 st6 => SqL.of (st6 _ _ hs2)) (by rw [Paired.length hp2]; exact small' (by omega)) (fun v b hv hb H6 R N st6 hR hN => ?_) (fun H6 ys st6 hD6 hys6 => out (fun b => decide (seg W b.1 b.2 = [a])) H6 D ys st6 hD6 hys6 hD (fun i j h1 h2 => ?_) _ _ _ fun _ _ h => h)
          · obtain ⟨q, rfl, hq⟩ := hv
            have hq := st6 _ _ hq
            refine ⟨rfl, ?_⟩
            obtain ⟨bi, bj⟩ := b
            have hb2 := mem_allSp.mp hb
            refine ⟨.str tx, rfl, .ref q, rfl, q, _, _, _, rfl, rfl, SqT.of hq, (atI_nat (j := 0) rfl), _, rfl, .ref q, rfl, q, _, _, _, rfl, rfl, SqT.of hq, (atI_nat (j := 1) rfl), _, rfl, tx, rfl, small' (by omega), .ref r, rfl, r, _, _, _, rfl, rfl, SqT.of (st6 _ _ hr2), (atI_nat (j := 1) rfl), rfl, _, rfl, ?_⟩
            rw [cut_seg htx hb2.1 hb2.2]
            have eq := seg_one hnd (seg_ok hW (i := bi) (j := bj)) fr
            by_cases e : seg W bi bj = [a]
            · exact iteP (decide_eq_true (congrArg V.str (eq.mpr e))) ⟨.ref q, rfl, hR (decide_eq_true e) _ (Same.refl _)⟩
            · exact iteN (decide_eq_false fun z => e (eq.mp (V.str.inj z))) (hN (decide_eq_false e) _ (Same.refl _))
          · show decide (seg W i j = [a]) = true ↔ seg W i j = [a]
            rw [decide_eq_true_iff]
        | no j =>
          obtain ⟨_, L1, ev1, ⟨d1, rfl, hd1⟩, ht1, hn1⟩ := htd.at_ (i := j) (by rw [la]; exact fr)
          refine ⟨.ref r, rfl, r, _, _, _, rfl, rfl, SqT.of hr2, (atI_nat (j := 0) rfl), rfl, _, rfl, iteN (decide_eq_false (str_ne (by decide))) ?_⟩
          refine ⟨.ref r, rfl, r, _, _, _, rfl, rfl, SqT.of hr2, (atI_nat (j := 0) rfl), rfl, _, rfl, iteN (decide_eq_false (str_ne (by decide))) ?_⟩
          refine ⟨.ref r, rfl, r, _, _, _, rfl, rfl, SqT.of hr2, (atI_nat (j := 0) rfl), rfl, _, rfl, iteN (decide_eq_false (str_ne (by decide))) ?_⟩
          refine ⟨.ref r, rfl, r, _, _, _, rfl, rfl, SqT.of hr2, (atI_nat (j := 0) rfl), rfl, _, rfl, iteP (decide_eq_true rfl) ?_⟩
          refine ⟨.ref sl, rfl, sl, rfl, ⟨_, SqL.of hs2⟩, fun D hD => ?_⟩
          refine lc_filter (Rel := SpAt H'') (S := allSp W.length) (fun b => !decide (b ∈ L1)) hp2 hD (fun H6 st6 => SqL.of (st6 _ _ hs2)) (by rw [Paired.length hp2]; exact small' (by omega)) (fun v b hv hb H6 R N st6 hR hN => ?_) (fun H6 ys st6 hD6 hys6 => out (fun b => !decide (b ∈ L1)) H6 D ys st6 hD6 hys6 hD (fun i j h1 h2 => ?_) _ _ _ fun _ _ h => h)
          · obtain ⟨q, rfl, hq⟩ := hv
            have hq := st6 _ _ hq
            refine ⟨rfl, ?_⟩
            refine ⟨.ref q, rfl, .ref fl, rfl, .ref r, rfl, r, _, _, _, rfl, rfl, SqT.of (st6 _ _ hr2), (atI_nat (j := 1) rfl), fl, _, _, _, rfl, rfl, SqL.of (st6 _ _ hf2), atI_nat ev1, d1, _, rfl, sp_get (.inl (st6 _ _ hd1)) hq, _, rfl, ?_⟩
            have hv := val_spans L1 b
            by_cases e : b ∈ L1
            · rw [decide_eq_true e] at hv
              exact iteN (by rw [hv]; rfl) (hN (by rw [decide_eq_true e]; rfl) _ (Same.refl _))
            · rw [decide_eq_false e] at hv
              exact iteP (by rw [hv]; rfl) ⟨.ref q, rfl, hR (by rw [decide_eq_false e]; rfl) _ (Same.refl _)⟩
          · show (!decide ((i, j) ∈ L1)) = true ↔ ¬ lang ahead _ (seg W i j)
            rw [Bool.not_eq_true', decide_eq_false_iff_not, ht1 i j]
            exact ⟨fun h z => h ⟨h1, h2, z⟩, fun h z => h z.2.2⟩
        | or j k =>
          obtain ⟨_, L1, ev1, ⟨d1, rfl, hd1⟩, ht1, hn1⟩ := htd.at_ (i := j) (by rw [la]; exact fr.1)
          obtain ⟨_, L2, ev2, ⟨d2, rfl, hd2⟩, ht2, hn2⟩ := htd.at_ (i := k) (by rw [la]; exact fr.2)
          refine ⟨.ref r, rfl, r, _, _, _, rfl, rfl, SqT.of hr2, (atI_nat (j := 0) rfl), rfl, _, rfl, iteN (decide_eq_false (str_ne (by decide))) ?_⟩
          refine ⟨.ref r, rfl, r, _, _, _, rfl, rfl, SqT.of hr2, (atI_nat (j := 0) rfl), rfl, _, rfl, iteN (decide_eq_false (str_ne (by decide))) ?_⟩
          refine ⟨.ref r, rfl, r, _, _, _, rfl, rfl, SqT.of hr2, (atI_nat (j := 0) rfl), rfl, _, rfl, iteN (decide_eq_false (str_ne (by decide))) ?_⟩
          refine ⟨.ref r, rfl, r, _, _, _, rfl, rfl, SqT.of hr2, (atI_nat (j := 0) rfl), rfl, _, rfl, iteN (decide_eq_false (str_ne (by decide))) ?_⟩
          refine ⟨.ref r, rfl, r, _, _, _, rfl, rfl, SqT.of hr2, (atI_nat (j := 0) rfl), rfl, _, rfl, iteP (decide_eq_true rfl) ?_⟩
          refine ⟨.ref sl, rfl, sl, rfl, ⟨_, SqL.of hs2⟩, fun D hD => ?_⟩
          refine lc_filter (Rel := SpAt H'') (S := allSp W.length) (fun b => decide (b ∈ L1) || decide (b ∈ L2)) hp2 hD (fun H6 st6 => SqL.of (st6 _ _ hs2)) (by rw [Paired.length hp2]; exact small' (by omega)) (fun v b hv hb H6 R N st6 hR hN => ?_) (fun H6 ys st6 hD6 hys6 => out (fun b => decide (b ∈ L1) || decide (b ∈ L2)) H6 D ys st6 hD6 hys6 hD (fun i j h1 h2 => ?_) _ _ _ fun _ _ h => h)
          · obtain ⟨q, rfl, hq⟩ := hv
            have hq := st6 _ _ hq
            refine ⟨rfl, ?_⟩
            refine ⟨.ref q, rfl, .ref fl, rfl, .ref r, rfl, r, _, _, _, rfl, rfl, SqT.of (st6 _ _ hr2), (atI_nat (j := 1) rfl), fl, _, _, _, rfl, rfl, SqL.of (st6 _ _ hf2), atI_nat ev1, d1, _, rfl, sp_get (.inl (st6 _ _ hd1)) hq, _, rfl, ?_⟩
            have hv1 := val_spans L1 b
            have hv2 := val_spans L2 b
            by_cases e : b ∈ L1
            · rw [decide_eq_true e] at hv1
              exact iteP hv1 (iteP rfl ⟨.ref q, rfl, hR (by rw [decide_eq_true e]; rfl) _ (Same.refl _)⟩)
            · rw [decide_eq_false e] at hv1
              refine iteN hv1 ⟨.ref q, rfl, .ref fl, rfl, .ref r, rfl, r, _, _, _, rfl, rfl, SqT.of (st6 _ _ hr2), (atI_nat (j := 2) rfl), fl, _, _, _, rfl, rfl, SqL.of (st6 _ _ hf2), atI_nat ev2, d2, _, rfl, sp_get (.inl (st6 _ _ hd2)) hq, _, rfl, ?_⟩
              by_cases e2 : b ∈ L2
              · rw [decide_eq_true e2] at hv2
                exact iteP hv2 ⟨.ref q, rfl, hR (by rw [decide_eq_true e2, Bool.or_true]) _ (Same.refl _)⟩
              · rw [decide_eq_false e2] at hv2
                exact iteN hv2 (hN (by rw [decide_eq_false e, decide_eq_false e2]; rfl) _ (Same.refl _))
          · show (decide ((i, j) ∈ L1) || decide ((i, j) ∈ L2)) = true ↔ lang ahead _ (seg W i j) ∨ lang ahead _ (seg W i j)
            rw [Bool.or_eq_true, decide_eq_true_iff, decide_eq_true_iff, ht1 i j, ht2 i j]
            exact ⟨fun h => h.imp (fun z => z.2.2) fun z => z.2.2, fun h => h.imp (fun z => ⟨h1, h2, z⟩) fun z => ⟨h1, h2, z⟩⟩
        | and j k =>
          obtain ⟨_, L1, ev1, ⟨d1, rfl, hd1⟩, ht1, hn1⟩ := htd.at_ (i := j) (by rw [la]; exact fr.1)
          obtain ⟨_, L2, ev2, ⟨d2, rfl, hd2⟩, ht2, hn2⟩ := htd.at_ (i := k) (by rw [la]; exact fr.2)
          refine ⟨.ref r, rfl, r, _, _, _, rfl, rfl, SqT.of hr2, (atI_nat (j := 0) rfl), rfl, _, rfl, iteN (decide_eq_false (str_ne (by decide))) ?_⟩
          refine ⟨.ref r, rfl, r, _, _, _, rfl, rfl, SqT.of hr2, (atI_nat (j := 0) rfl), rfl, _, rfl, iteN (decide_eq_false (str_ne (by decide))) ?_⟩
          refine ⟨.ref r, rfl, r, _, _, _, rfl, rfl, SqT.of hr2, (atI_nat (j := 0) rfl), rfl, _, rfl, iteN (decide_eq_false (str_ne (by decide))) ?_⟩
          refine ⟨.ref r, rfl, r, _, _, _, rfl, rfl, SqT.of hr2, (atI_nat (j := 0) rfl), rfl, _, rfl, iteN (decide_eq_false (str_ne (by decide))) ?_⟩
          refine ⟨.ref r, rfl, r, _, _, _, rfl, rfl, SqT.of hr2, (atI_nat (j := 0) rfl), rfl, _, rfl, iteN (decide_eq_false (str_ne (by decide))) ?_⟩
          refine ⟨.ref r, rfl, r, _, _, _, rfl, rfl, SqT.of hr2, (atI_nat (j := 0) rfl), rfl, _, rfl, iteP (decide_eq_true rfl) ?_⟩
          refine ⟨.ref sl, rfl, sl, rfl, ⟨_, SqL.of hs2⟩, fun D hD => ?_⟩
          refine lc_filter (Rel := SpAt H'') (S := allSp W.length) (fun b => decide (b ∈ L1) && decide (b ∈ L2)) hp2 hD (fun H6 st6 => SqL.of (st6 _ _ hs2)) (by rw [Paired.length hp2]; exact small' (by omega)) (fun v b hv hb H6 R N st6 hR hN => ?_) (fun H6 ys st6 hD6 hys6 => out (fun b => decide (b ∈ L1) && decide (b ∈ L2)) H6 D ys st6 hD6 hys6 hD (fun i j h1 h2 => ?_) _ _ _ fun _ _ h => h)
          · obtain ⟨q, rfl, hq⟩ := hv
            have hq := st6 _ _ hq
            refine ⟨rfl, ?_⟩
            refine ⟨.ref q, rfl, .ref fl, rfl, .ref r, rfl, r, _, _, _, rfl, rfl, SqT.of (st6 _ _ hr2), (atI_nat (j := 1) rfl), fl, _, _, _, rfl, rfl, SqL.of (st6 _ _ hf2), atI_nat ev1, d1, _, rfl, sp_get (.inl (st6 _ _ hd1)) hq, _, rfl, ?_⟩
            have hv1 := val_spans L1 b
            have hv2 := val_spans L2 b
            by_cases e : b ∈ L1
            · rw [decide_eq_true e] at hv1
              refine iteP hv1 ⟨.ref q, rfl, .ref fl, rfl, .ref r, rfl, r, _, _, _, rfl, rfl, SqT.of (st6 _ _ hr2), (atI_nat (j := 2) rfl), fl, _, _, _, rfl, rfl, SqL.of (st6 _ _ hf2), atI_nat ev2, d2, _, rfl, sp_get (.inl (st6 _ _ hd2)) hq, _, rfl, ?_⟩
              by_cases e2 : b ∈ L2
              · rw [decide_eq_true e2] at hv2
                exact iteP hv2 ⟨.ref q, rfl, hR (by rw [decide_eq_true e, decide_eq_true e2]; rfl) _ (Same.refl _)⟩
              · rw [decide_eq_false e2] at hv2
                exact iteN hv2 (hN (by rw [decide_eq_false e2, Bool.and_false]) _ (Same.refl _))
            · rw [decide_eq_false e] at hv1
              exact iteN hv1 (iteN rfl (hN (by rw [decide_eq_false e]; rfl) _ (Same.refl _)))
          · show (decide ((i, j) ∈ L1) && decide ((i, j) ∈ L2)) = true ↔ lang ahead _ (seg W i j) ∧ lang ahead _ (seg W i j)
            rw [Bool.and_eq_true, decide_eq_true_iff, decide_eq_true_iff, ht1 i j, ht2 i j]
            exact ⟨fun h => ⟨h.1.2.2, h.2.2.2⟩, fun h => ⟨⟨h1, h2, h.1⟩, ⟨h1, h2, h.2⟩⟩⟩
        | behind j k =>
          obtain ⟨_, L1, ev1, ⟨d1, rfl, hd1⟩, ht1, hn1⟩ := htd.at_ (i := j) (by rw [la]; exact fr.1)
          obtain ⟨_, L2, ev2, ⟨d2, rfl, hd2⟩, ht2, hn2⟩ := htd.at_ (i := k) (by rw [la]; exact fr.2)
          refine ⟨.ref r, rfl, r, _, _, _, rfl, rfl, SqT.of hr2, (atI_nat (j := 0) rfl), rfl, _, rfl, iteN (decide_eq_false (str_ne (by decide))) ?_⟩
          refine ⟨.ref r, rfl, r, _, _, _, rfl, rfl, SqT.of hr2, (atI_nat (j := 0) rfl), rfl, _, rfl, iteN (decide_eq_false (str_ne (by decide))) ?_⟩
          refine ⟨.ref r, rfl, r, _, _, _, rfl, rfl, SqT.of hr2, (atI_nat (j := 0) rfl), rfl, _, rfl, iteN (decide_eq_false (str_ne (by decide))) ?_⟩
          refine ⟨.ref r, rfl, r, _, _, _, rfl, rfl, SqT.of hr2, (atI_nat (j := 0) rfl), rfl, _, rfl, iteN (decide_eq_false (str_ne (by decide))) ?_⟩
          refine ⟨.ref r, rfl, r, _, _, _, rfl, rfl, SqT.of hr2, (atI_nat (j := 0) rfl), rfl, _, rfl, iteN (decide_eq_false (str_ne (by decide))) ?_⟩
          refine ⟨.ref r, rfl, r, _, _, _, rfl, rfl, SqT.of hr2, (atI_nat (j := 0) rfl), rfl, _, rfl, iteN (decide_eq_false (str_ne (by decide))) ?_⟩
          refine ⟨by show 0 ≤ sizeLine; decide, fun lb nlb => ?_⟩
          have nd1 : d1 ≠ lb := ne_of_none hd1 nlb
          have nfl : fl ≠ lb := ne_of_none hf2 nlb
          refine ⟨d1, .dT (L1.map fun p => (spK p, .bl true)), (by rw [upd_ne nd1]; exact hd1), True.intro, fun od => ?_⟩
          generalize hu1 : (HO.dT (L1.map fun p => (spK p, V.bl true))) = u1 at hd1
          let B : Hp → Prop := fun H => (∀ b o, b ≠ d1 → H'' b = some o → H b = some o) ∧ H d1 = some (.frz od u1)
          have B0 : B (upd (upd H'' lb (.lst [])) d1 (.frz od u1)) := ⟨fun b o nb e => by rw [upd_ne nb, upd_ne (ne_of_none e nlb)]; exact e, upd_same⟩
          have Bs : ∀ {H H' : Hp}, B H → Same H H' → B H' := fun {H H'} b s => ⟨fun c o nc e => s _ _ (b.1 c o nc e), s _ _ b.2⟩
          have Bt : ∀ {H : Hp}, B H → Tst H'' H := fun {H} b c xs e => b.1 c _ (fun z => by rw [z, hd1, ← hu1] at e; cases e) e
          have Bl : ∀ {H : Hp}, B H → ∀ {c xs}, H'' c = some (.lst xs) → H c = some (.lst xs) := fun {H} b {c xs} e => b.1 c _ (fun z => by rw [z, hd1, ← hu1] at e; cases e) e
          have rd2 : ∀ {H : Hp}, B H → Rd H d2 (.dT (L2.map fun p => (spK p, .bl true))) := fun {H} b => by
            by_cases z : d2 = d1
            · rw [z, hd1] at hd2
              rw [z, ← Option.some.inj hd2]
              exact .inr ⟨od, b.2⟩
            · exact .inl (b.1 _ _ z hd2)
          have hl1 : L1.length ≤ 121 := ht1.few hn1 hWl
          let fB : Nat × Nat → List (Nat × Nat) := fun p => ((List.range (W.length + 1 - p.2)).filter fun t => decide ((p.2, p.2 + t) ∈ L2)).map fun t => (p.1, p.2 + t)
          refine ⟨.ref fl, rfl, .ref r, rfl, r, _, _, _, rfl, rfl, SqT.of (Bt B0 _ _ hr2), (atI_nat (j := 1) rfl), fl, _, _, _, rfl, rfl, SqL.of (Bl B0 hf2), atI_nat ev1, d1, od, rfl, .inr ⟨L1.map fun p => (spK p, V.bl true), by rw [hu1]; exact upd_same, ?_⟩⟩
          refine for_it walk_keysT (fun m σ' H' => ∃ (y4 y5 : Option V) (vsm : List V), σ' = [some (.ref px), some (.str tx), some (.ref fl), some (.ref sl), y4, y5, some (.ref r), some (.ref lb), none, none] ∧ B H' ∧ H' lb = some (.lst vsm) ∧ Paired (SpAt H') vsm ((L1.take m).flatMap fB) ∧ vsm.length ≤ 11 * m)
            ⟨_, _, [], rfl, B0, by rw [upd_ne (Ne.symm nd1), upd_same], .nil, Nat.zero_le _⟩ (fun m σ' H' _ hP => ?_) (fun m v σ' H' H6 hm hP hY => ?_) (fun σ' H' hP => ?_)
          · obtain ⟨_, _, _, _, b, _⟩ := hP
            rw [hu1]
            exact b.2
          · obtain ⟨y4, y5, vsm, rfl, b, hlb, hsm, hsl⟩ := hP
            obtain ⟨rfl, kk, vv, q0, hk, rfl, hq⟩ := hY
            rw [List.getElem?_map] at hk
            obtain ⟨⟨pa, pb⟩, hp, ek⟩ := Option.map_eq_some_iff.mp hk
            cases ek
            have hq : H6 q0 = some (.tup [iv pa, iv pb]) := hq
            have hmL : m < L1.length := (List.getElem?_eq_some_iff.mp hp).1
            have hpab := (ht1 pa pb).mp (List.mem_of_getElem? hp)
            have tkm : L1.take (m + 1) = L1.take m ++ [(pa, pb)] := by rw [List.take_add_one, hp]; rfl
            refine ⟨q0, _, rfl, SqT.of hq, rfl, _, _, rfl, _, _, rfl, rfl, ?_⟩
            refine ⟨.ref lb, rfl, .inl ⟨rfl, _, SqL.of hlb⟩, iv pb, rfl, .str tx, rfl, .str tx, tx.length, rfl, ⟨small' (by omega), rfl⟩, _, _, rfl, rfl, (pb : Int), _, rfl, ⟨by omega, by omega, by omega, by omega⟩, fun D hD => ?_⟩
            have e2 : ((tx.length : Int) + 1 - (pb : Int)).toNat = W.length + 1 - pb := by omega
            rw [e2]
            refine lc_filterR (lo := (pb : Int)) (n := W.length + 1 - pb) (fun t => decide ((pb, pb + t) ∈ L2)) (fun t y H => SpAt H y (pa, pb + t)) (fun i y H1 H2 h st => h.tst st) hD (small' (by omega)) (fun t ht H7 R N st7 hR hN => ?_) (fun H7 ys st7 hD7 hys7 => ?_)
            · have b7 := Bs b st7
              refine ⟨rfl, ?_⟩
              refine ⟨iv pb, rfl, .int ((pb : Int) + (t : Int)), rfl, by show 2 ≤ sizeLine; decide, fun t1 nt1 => ?_⟩
              have s8 : Same H7 (upd H7 t1 (.tup [iv pb, .int ((pb : Int) + (t : Int))])) := Same.new nt1
              have b8 := Bs b7 s8
              have ht1' : (upd H7 t1 (.tup [iv pb, .int ((pb : Int) + (t : Int))])) t1 = some (.tup [iv (pb, pb + t).1, iv (pb, pb + t).2]) := upd_same
              have hv2 := val_spans L2 (pb, pb + t)
              generalize upd H7 t1 (.tup [iv pb, .int ((pb : Int) + (t : Int))]) = H8 at s8 b8 ht1'
              refine ⟨.ref fl, rfl, .ref r, rfl, r, _, _, _, rfl, rfl, SqT.of (Bt b8 _ _ hr2), (atI_nat (j := 2) rfl), fl, _, _, _, rfl, rfl, SqL.of (Bl b8 hf2), atI_nat ev2, d2, _, rfl, sp_get (rd2 b8) ht1', _, rfl, ?_⟩
              by_cases e : (pb, pb + t) ∈ L2
              · rw [decide_eq_true e] at hv2
                refine iteP hv2 ⟨iv pa, rfl, .int ((pb : Int) + (t : Int)), rfl, by show 2 ≤ sizeLine; decide, fun t2 nt2 => hR (decide_eq_true e) _ _ (s8.trans (Same.new nt2)) ⟨t2, rfl, ?_⟩⟩
                rw [upd_same]
                rfl
              · rw [decide_eq_false e] at hv2
                exact iteN hv2 (hN (decide_eq_false e) _ s8)
            · have hlb7 := st7 _ _ hlb
              have b7 := Bs b st7
              have yl : ys.length ≤ 11 := by
                rw [Paired.length hys7]
                refine Nat.le_trans (List.length_filter_le _ _) ?_
                rw [List.length_range]
                omega
              have ts := ts_lst (u := .lst (vsm ++ ys)) hlb7
              refine ⟨lb, D, vsm, ys, rfl, rfl, hlb7, hD7, small' (by omega), ?_⟩
              refine ⟨_, _, vsm ++ ys, rfl, ⟨fun c o nc e => by rw [upd_ne (ne_of_none e nlb)]; exact b7.1 c o nc e, by rw [upd_ne nd1]; exact b7.2⟩, upd_same, ?_, by rw [List.length_append]; omega⟩
              rw [tkm, List.flatMap_append, List.flatMap_singleton]
              refine paired_app (Paired.mapP hsm fun _ _ z => z.tst (st7.tst.trans ts)) (paired_of (by rw [List.length_map, Paired.length hys7]) fun jj y p e1 e2 => ?_)
              rw [List.getElem?_map] at e2
              obtain ⟨t, ht, rfl⟩ := Option.map_eq_some_iff.mp e2
              obtain ⟨y', ey', fy⟩ := paired_get hys7 jj t ht
              rw [e1] at ey'
              cases ey'
              exact fy.tst ts
          · obtain ⟨y4, y5, vsm, rfl, b, hlb, hsm, hsl⟩ := hP
            rw [List.length_map, List.take_length] at hsm
            rw [List.length_map] at hsl
            refine ⟨b.2, ?_⟩
            have s4 : Same H'' (upd H' d1 u1) := fun c o e => by
              by_cases z : c = d1
              · rw [z, hd1] at e
                rw [z, upd_same]
                exact e
              · rw [upd_ne z]
                exact b.1 c o z e
            have t4 : Tst H' (upd H' d1 u1) := Tst.upd fun xs e => by rw [b.2] at e; cases e
            refine fin _ _ lb vsm (L1.flatMap fB) _ _ s4 (by rw [upd_ne (Ne.symm nd1)]; exact hlb) (Paired.mapP hsm fun _ _ z => z.tst t4) ?_ (fun i l => ?_) nfl fun _ _ h => h
            · have := Paired.length hsm
              omega
            · have sbh : i ≤ l → l ≤ W.length → (tellsR ahead (.behind j k) (seg W i l) ↔ ∃ m, i ≤ m ∧ m ≤ l ∧ lang ahead j (seg W i m) ∧ lang ahead k (seg W m l)) := fun h1 h2 => seg_behind h1 h2
              constructor
              · intro h
                obtain ⟨⟨a, c⟩, hac, hin⟩ := List.mem_flatMap.mp h
                obtain ⟨t, ht, e⟩ := List.mem_map.mp hin
                obtain ⟨ht3, ht4⟩ := List.mem_filter.mp ht
                rw [List.mem_range] at ht3
                have e1 : a = i := (Prod.mk.inj e).1
                have e2 : c + t = l := (Prod.mk.inj e).2
                subst e1 e2
                have h1 := (ht1 a c).mp hac
                have h2 := (ht2 c (c + t)).mp (of_decide_eq_true ht4)
                exact ⟨by omega, h2.2.1, (sbh (by omega) h2.2.1).mpr ⟨c, h1.1, by omega, h1.2.2, h2.2.2⟩⟩
              · intro h
                obtain ⟨m, hm1, hm2, hm3, hm4⟩ := (sbh h.1 h.2.1).mp h.2.2
                refine List.mem_flatMap.mpr ⟨(i, m), (ht1 i m).mpr ⟨hm1, by omega, hm3⟩, List.mem_map.mpr ⟨l - m, List.mem_filter.mpr ⟨List.mem_range.mpr (by show l - m < W.length + 1 - m; omega), decide_eq_true ?_⟩, ?_⟩⟩
                · rw [show (i, m).2 + (l - m) = l by show m + (l - m) = l; omega]
                  exact (ht2 m l).mpr ⟨hm2, h.2.1, hm4⟩
                · rw [show (i, m).2 + (l - m) = l by show m + (l - m) = l; omega]
      · obtain ⟨vd, y4, y5, y6, y7, rfl, s2, hf2, hs2, hp2, htd⟩ := hP
        have hvl : vr.length = rows.length := Paired.length hvr
        rw [hvl, List.take_length] at htd
        exact ⟨.ref fl, rfl, q _ _ vd s2 hf2 htd⟩
end
end Cw
set_option Elab.async false
set_option linter.all false
set_option maxRecDepth 100000
set_option maxHeartbeats 4000000
/-! _law_tells, _law_led, _law_lets -/
namespace Cw
open PySem PySem.Spec PyProof.Rows L2 Kw
section
variable {P : Program} {w : World} {K : PySem.W.Frag} {mg : Str → Option Value} {base : Heap}
def TxAt (tx ls : Str) (W : List Nat) : Prop := tx.cps.toList = W.map (fun a => ls.cps.toList.getD a 0) ∧ Ok ls.length W ∧ W.length ≤ 10
theorem TxAt.len {tx ls : Str} {W : List Nat} (h : TxAt tx ls W) : tx.length = W.length := by
  show tx.cps.size = _
  rw [← Array.length_toList, h.1, List.length_map]
def spTells : Sp := fun vs H Q _ => ∃ (x : V) (tx ls : Str) (W : List Nat) (rows : List Kw.Row), vs = [x, .str tx] ∧ RowsAt ls.cps.toList H x rows ∧ Fits ls.length 0 rows ∧ rows.length ≤ 100 ∧ rows ≠ [] ∧ TxAt tx ls W ∧ ls.cps.toList.Nodup ∧
  ∀ H' b, Same H H' → (b = true ↔ lang (langs [] rows) (rows.length - 1) W) → Q (.bl b) H'
theorem ok_tells {f fT : Addr} {fd fdT : FuncData} (F : Fun K "_law_tells" "_law_tells" sLTells f fd) (GT : FnOk P w K mg base CX0 1 fT fdT ["_law_expression_here", "_law_text_here"] (spTold K)) (kT : PySem.W.keepIn K (.ref fT) = true) (bT : Binds K fdT ["_law_expression_here", "_law_text_here"] []) (gT : mg "_law_told_rows" = some (.ref fT)) (mlen : mg "len" = none) :
    FnOk P w K mg base CX0 2 f fd ["_law_expression_here", "_law_text_here"] spTells := by
  refine F.ok scLTells (fun vs H Q E h => ?_) (fun cdv A outer s H vs Q E hr h => ?_)
  · obtain ⟨x, tx, ls, W, rows, rfl, _⟩ := h
    rfl
  · obtain ⟨x, tx, ls, W, rows, rfl, hx, hf, hrl, hne, ht, hnd, q⟩ := h
    have hu := hu_of hr
    refine ⟨_, pss_one (ps_ret (pe_cmp (pc_din hu (pe_tup (pa_cons pe_int (pa_cons (pe_callB call_len (by rfl) mlen PySem.boot_len (pa_cons (pv 1) pa_nil)) pa_nil))) (pe_ix ix_list (pe_call GT hr (by rfl) gT kT bT .nil pass0 (pa_cons (pv 0) (pa_cons (pv 1) pa_nil))) (pe_un un_neg pe_int) (fun _ _ => rfl))))), ?_⟩
    have hn := ht.len
    have hWl := ht.2.2
    refine ⟨.str tx, rfl, .str tx, tx.length, rfl, ⟨small' (by omega), rfl⟩, by show 2 ≤ sizeLine; decide, fun t nt => ?_⟩
    have s1 : Same H (upd H t (.tup [.int 0, .int tx.length])) := Same.new nt
    refine ⟨x, rfl, .str tx, rfl, x, tx, ls, W, rows, rfl, hx.tst s1.tst, hf, hrl, ht.1, ht.2.1, hWl, hnd, fun H2 p vd s2 hp htd => ?_⟩
    have ll : (langs [] rows).length = rows.length := by rw [langs_len]; simp
    have r0 : 0 < rows.length := List.length_pos_iff.mpr hne
    have vl := htd.len
    obtain ⟨v, L, ev, ⟨d, rfl, hd⟩, hL, hLn⟩ := htd.at_ (i := rows.length - 1) (by omega)
    refine ⟨1, rfl, p, _, _, _, rfl, rfl, SqL.of hp, atI_last (by rw [vl, ll]; exact ev), ?_⟩
    have ht2 : H2 t = some (.tup [iv (0, W.length).1, iv (0, W.length).2]) := by
      have := s2 t _ upd_same
      rw [hn] at this
      exact this
    refine ⟨d, _, rfl, sp_get (.inl hd) ht2, ?_⟩
    refine q H2 _ (s1.trans s2) ?_
    rw [val_spans, decide_eq_true_iff, hL 0 W.length, seg_all]
    exact ⟨fun h => h.2.2, fun h => ⟨Nat.zero_le _, Nat.le_refl _, h⟩⟩
theorem idx_one {ls : Str} (hn : ls.cps.toList.Nodup) {a : Nat} (ha : a < ls.length) : ∃ rest, Builtin.Str.occurrences ls ⟨#[ls.cps.toList.getD a 0]⟩ 0 ls.length 1 = a :: rest := by
  have hl : ls.cps.toList.length = ls.length := Array.length_toList
  have ea : ls.cps.toList[a]? = some (ls.cps.toList.getD a 0) := by
    rw [List.getD_eq_getElem?_getD, List.getElem?_eq_getElem (by omega)]
    rfl
  rcases StrLaws.occ_head ls ⟨#[ls.cps.toList.getD a 0]⟩ 1 (Nat.le_refl 1) with ⟨_, h0⟩ | ⟨i, r, h0, hi, _⟩
  · exact absurd ((StrLaws.subAt_one ls _ a).mpr ea) (h0 a)
  · have e2 := (StrLaws.subAt_one ls _ i).mp hi
    have il := (List.getElem?_eq_some_iff.mp e2).1
    have : i = a := by
      refine getD_inj hn il (by omega) ?_
      rw [List.getD_eq_getElem?_getD, e2]
      rfl
    rw [this] at h0
    exact ⟨r, h0⟩
def spLed : Sp := fun vs H Q _ => ∃ (x : V) (tx ls : Str) (W : List Nat) (m : Mc) (r : Nat), vs = [x, iv r, .str tx] ∧ McAt H x ls m ∧ m.Valid ls.length ∧ r < m.mv.length ∧ TxAt tx ls W ∧ ls.cps.toList.Nodup ∧ ls.length ≤ 100 ∧ Q (iv (m.run r W)) H
theorem ok_led {f : Addr} {fd : FuncData} (F : Fun K "_law_led" "_law_led" sLLed f fd) : FnOk P w K mg base CX0 1 f fd ["_law_machine", "_law_room", "_law_text_here"] spLed := by
  refine F.ok scLLed (fun vs H Q E h => ?_) (fun cdv A outer s H vs Q E hr h => ?_)
  · obtain ⟨x, tx, ls, W, m, r, rfl, _⟩ := h
    rfl
  · obtain ⟨x, tx, ls, W, m, r, rfl, ⟨p, x1, x2, rfl, hp, hx1, hx2⟩, hv, hr0, ht, hnd, hk, q⟩ := h
    have nd := scLLed.nd
    refine ⟨_, pss_cons (ps_for PassesOwn.never rfl (pi_str (pv 2)) (pg_name (i := 3) nd rfl (.inl rfl))
      (pss_one (ps_set (i := 1) nd rfl (.inl rfl) (pe_ix ix_tup (pe_ix ix_tup (pe_ix ix_tup (pv 0) pe_int (fun _ _ => rfl)) (pv 1) (fun _ _ => rfl)) (pe_m1 PySem.F.slot_str_index PySem.F.type_str_index mt_sindex (pe_ix ix_tup (pv 0) pe_int (fun _ _ => rfl)) (pv 3)) (fun _ _ => rfl)))))
      (pss_one (ps_ret (pv 1))), ?_⟩
    obtain ⟨px, vs, rfl, hpx, hvl, hrow⟩ := hx1.row
    have sz : tx.cps.size = W.length := ht.len
    refine ⟨.str tx, rfl, tx, rfl, ?_⟩
    refine for_it walk_str (fun i σ' H' => ∃ y3 : Option V, σ' = [some (.ref p), some (iv (m.run r (W.take i))), some (.str tx), y3] ∧ H' = H ∧ m.run r (W.take i) < m.mv.length) ⟨none, rfl, rfl, by rw [List.take_zero]; exact hr0⟩ (fun _ _ _ _ _ => True.intro) (fun i v σ' H' H6 hi hP hY => ?_) (fun σ' H' hP => ?_)
    · obtain ⟨y3, rfl, rfl, hlt⟩ := hP
      obtain ⟨rfl, c, hc, rfl⟩ := hY
      rw [sz] at hi
      have ea : W[i]? = some W[i] := List.getElem?_eq_getElem hi
      generalize hWi : W[i] = a at ea
      have haK : a < ls.length := ht.2.1 a (List.mem_of_getElem? ea)
      have ec : c = ls.cps.toList.getD a 0 := by
        have : tx.cps.toList[i]? = some c := by rw [Array.getElem?_toList]; exact hc
        rw [ht.1, List.getElem?_map, ea] at this
        exact (Option.some.inj this).symm
      subst ec
      obtain ⟨q1, e1, h1⟩ := hrow _ _ (mv_get hlt)
      obtain ⟨rest, ho⟩ := idx_one hnd haK
      have et : W.take (i + 1) = W.take i ++ [a] := by rw [List.take_add_one, ea]; rfl
      refine ⟨.ref p, rfl, p, _, _, _, rfl, rfl, SqT.of hp, (atI_nat (j := 1) rfl), iv (m.run r (W.take i)), rfl, px, _, _, _, rfl, rfl, SqT.of hpx, atI_nat e1, .ref p, rfl, p, _, _, _, rfl, rfl, SqT.of hp, (atI_nat (j := 0) rfl), ⟨_, rfl⟩, _, rfl, ls, _, a, rest, rfl, rfl, ho, ?_⟩
      refine ⟨q1, _, _, _, rfl, rfl, SqT.of h1, atI_nat (iv_get (to_get hv hlt haK)), ?_⟩
      have er : m.run r (W.take (i + 1)) = m.to (m.run r (W.take i)) a := by rw [et, Mc.run_app]; rfl
      refine ⟨some (.str ⟨#[ls.cps.toList.getD a 0]⟩), ?_, rfl, ?_⟩
      · rw [er]
        rfl
      · rw [er]
        exact Mc.to_lt hv _ _
    · obtain ⟨y3, rfl, rfl, hlt⟩ := hP
      rw [sz, List.take_length]
      exact ⟨_, rfl, q⟩
def spLets : Sp := fun vs H Q _ => ∃ (x : V) (tx ls : Str) (W : List Nat) (m : Mc), vs = [x, .str tx] ∧ McAt H x ls m ∧ m.Valid ls.length ∧ TxAt tx ls W ∧ ls.cps.toList.Nodup ∧ ls.length ≤ 100 ∧ Q (.bl (m.acc W)) H
theorem ok_lets {f fL : Addr} {fd fdL : FuncData} (F : Fun K "_law_lets" "_law_lets" sLLets f fd) (GL : FnOk P w K mg base CX0 1 fL fdL ["_law_machine", "_law_room", "_law_text_here"] spLed) (kL : PySem.W.keepIn K (.ref fL) = true) (bL : Binds K fdL ["_law_machine", "_law_room", "_law_text_here"] []) (gL : mg "_law_led" = some (.ref fL)) :
    FnOk P w K mg base CX0 2 f fd ["_law_machine", "_law_text_here"] spLets := by
  refine F.ok scLLets (fun vs H Q E h => ?_) (fun cdv A outer s H vs Q E hr h => ?_)
  · obtain ⟨x, tx, ls, W, m, rfl, _⟩ := h
    rfl
  · obtain ⟨x, tx, ls, W, m, rfl, ⟨p, x1, x2, rfl, hp, hx1, ⟨py, rfl, hy⟩⟩, hv, ht, hnd, hk, q⟩ := h
    refine ⟨_, pss_one (ps_ret (pe_ix ix_tup (pe_ix ix_tup (pv 0) pe_int (fun _ _ => rfl)) (pe_call GL hr (by rfl) gL kL bL .nil pass0 (pa_cons (pv 0) (pa_cons pe_int (pa_cons (pv 1) pa_nil)))) (fun _ _ => rfl))), ?_⟩
    refine ⟨.ref p, rfl, p, _, _, _, rfl, rfl, SqT.of hp, (atI_nat (j := 2) rfl), .ref p, rfl, .str tx, rfl, .ref p, tx, ls, W, m, 0, rfl, ⟨p, x1, _, rfl, hp, hx1, ⟨py, rfl, hy⟩⟩, hv, hv.pos, ht, hnd, hk, ?_⟩
    exact ⟨py, _, _, _, rfl, rfl, SqT.of hy, atI_nat (bl_get (ys_get hv (Mc.run_lt hv W hv.pos))), q⟩
end
end Cw
set_option Elab.async false
set_option linter.all false
set_option maxRecDepth 100000
set_option maxHeartbeats 4000000
/-! _law_numbered -/
namespace Cw
open PySem PySem.Spec PyProof.Rows L2 Kw
theorem inV_iv (t : Nat) (l : List Nat) : inV (iv t) (l.map iv) = decide (t ∈ l) := by
  unfold inV
  rw [List.any_map]
  rw [Bool.eq_iff_iff, List.any_eq_true, decide_eq_true_iff]
  constructor
  · rintro ⟨x, hx, e⟩
    have e : ((x : Int) == (t : Int)) = true := e
    have := Int.ofNat_inj.mp (eq_of_beq e)
    rw [← this]
    exact hx
  · intro h
    refine ⟨t, h, ?_⟩
    show ((t : Int) == (t : Int)) = true
    exact beq_self_eq_true _
theorem flat_iv (l : List Nat) : (l.map iv).all flatV = true := by
  rw [List.all_map, List.all_eq_true]
  intro x _
  rfl
theorem mtIx (K : PySem.W.Frag) {X : Cx} (h : X.K = K := by rfl) : MtR X "list.index" (rIndex K) := by
  subst h
  exact mt_index
theorem bmK (K : PySem.W.Frag) {X : Cx} {T id : String} {name : Str} {o e : Expr} {es : List Expr} {to : TE} {t : TA} {r : V → List V → Hp → VK → Prop} {apos cpos : Pos} (pa : PlainAttrs T) (slot : Slot T name id) (hty : typeOf (.builtin id) = pure (.type "method_descriptor")) (hm : MtR X id r) (ho : PE X o to) (ha : PA X (e :: es) t) (hK : X.K = K := by rfl)
    (hbase : attributeBase o name X.env (eval o X.env) = eval o X.env := by rfl)
    (hfew : ((backTo cpos (starEach (e :: es) X.env)).all (fun x => !x.1) && (backToKw cpos (keywordEach [] X.env)).all (fun x => x.1.isSome)
      && decide ((e :: es).length + ([] : List Keyword).length + (if ([] : List Keyword).isEmpty then 0 else 1) < 30)) = true := by rfl)
    (hline : (apos.endLine == cpos.line) = true := by rfl) (hs : starEach (e :: es) X.env = (false, eval e X.env) :: starEach es X.env := by rfl) (hplain : (backTo cpos (starEach es X.env)).any (·.1) = false := by rfl) :
    PE X (.Call (.Attribute o name apos) (e :: es) [] cpos) (tBM K T r to t) := by
  subst hK
  exact pe_bm pa slot hty hm ho ha hbase hfew hline hs hplain
/-- xs.index(t), t there -/
theorem ix_of {K : PySem.W.Frag} {H : Hp} {a : Addr} {l : List Nat} {t : Nat} {Q : VK} (h : H a = some (.lst (l.map iv))) (ht : t ∈ l) (q : Q (iv (l.idxOf t)) H) : rIndex K (.ref a) [iv t] H Q := by
  have hl := List.idxOf_lt_length_of_mem ht
  refine ⟨a, l.map iv, iv t, l.idxOf t, iv t, rfl, rfl, SqL.of h, rfl, flat_iv l, ?_, beq_self_eq_true (t : Int), fun m z' hm hz => ?_, q⟩
  · rw [List.getElem?_map, List.getElem?_eq_getElem hl, List.getElem_idxOf]
    rfl
  · rw [List.getElem?_map] at hz
    obtain ⟨x, hx, rfl⟩ := Option.map_eq_some_iff.mp hz
    show ((x : Int) == (t : Int)) = false
    refine beq_eq_false_iff_ne.mpr fun e => ?_
    have e := Int.ofNat_inj.mp e
    subst e
    obtain ⟨hxl, ex⟩ := List.getElem?_eq_some_iff.mp hx
    have := List.not_of_lt_findIdx (p := (· == x)) (xs := l) (i := m) hm
    rw [ex] at this
    simp at this
section
variable {P : Program} {w : World} {K : PySem.W.Frag} {mg : Str → Option Value} {base : Heap}
def spNumbered : Sp := fun vs H Q _ => ∃ (x y : V) (ls : Str) (m : Mc) (k : Nat), vs = [.str ls, x, y] ∧ MvAt H x m.mv ∧ BlsAt H y m.ys ∧ m.Valid k ∧ k ≤ 100 ∧ m.mv.length ≤ 1000 ∧ ∀ H' v, Same H H' → McAt H' v ls m.renum → Q v H'
theorem ok_numbered {f : Addr} {fd : FuncData} (F : Fun K "_law_numbered" "_law_numbered" sLNumbered f fd) (mlen : mg "len" = none) (mtup : mg "tuple" = none) : FnOk P w K mg base CX0 1 f fd ["_law_letters_here", "_law_moves", "_law_yes"] spNumbered := by
  refine F.ok scLNumbered (fun vs H Q E h => ?_) (fun cdv A outer s H vs Q E hr h => ?_)
  · obtain ⟨x, y, ls, m, k, rfl, _⟩ := h
    rfl
  · obtain ⟨x, y, ls, m, k, rfl, hx, hy, hv, hk, hz, q⟩ := h
    have nd := scLNumbered.nd
    refine ⟨_, pss_cons (ps_set (i := 3) nd rfl (.inr rfl) (pe_lst (pa_cons (pe_int) pa_nil)))
      (pss_cons (ps_set (i := 4) nd rfl (.inl rfl) (pe_int))
      (pss_cons (ps_while PassesOwn.never (pt_cmpR op_lt (pv 4) (pe_callB call_len_seq (by rfl) mlen PySem.boot_len (pa_cons (pv 3) pa_nil)) (nomark _))
      (pss_cons (ps_for PassesOwn.never rfl (pi_tup (pe_ix ix_tup (pv 1) (pe_ix ix_list (pv 3) (pv 4) (fun _ _ => rfl)) (fun _ _ => rfl))) (pg_name (i := 5) nd rfl (.inl rfl))
      (pss_one (ps_if (pt_cmpR op_notIn_seq (pv 5) (pv 3) (by rfl)) (pss_one (ps_expr (pe_bm PySem.F.plainAttrs_list PySem.F.slot_list_append PySem.F.type_list_append mt_append (pv 3) (pa_cons (pv 5) pa_nil)))) (pss_nil))))
      (pss_one (ps_set (i := 4) nd rfl (.inl rfl) (pe_op op_add (pv 4) (pe_int))))))
      (pss_cons (ps_set (i := 6) nd rfl (.inl rfl) (pe_callTy (tupOf K) (by rfl) mtup bTuple (pa_cons (pe_lc (own := [("_law_room", 7)]) (g := gName 7) (tt := tYes) rfl nd (piL K (pv 3)) (blkOk_by (own := [("_law_room", 7)]) (N := nLNumbered) (sc := (defScope sLNumbered)) (by decide +kernel)) (fun _ _ _ _ _ => pg_name (i := 7) nd rfl (Or.inl rfl)) (fun _ _ _ _ _ => pts_nil) (fun _ _ _ _ _ => pe_callTy (tupOf K) (by rfl) mtup bTuple (pa_cons (pe_lc (own := [("_law_goal", 5)]) (g := gName 5) (tt := tYes) rfl nd (piT K (pe_ix (ixT K) (pv 1) (pv 7) (fun _ _ => rfl))) (blkOk_by (own := [("_law_goal", 5)]) (N := nLNumbered) (by rfl)) (fun _ _ _ _ _ => pg_name (i := 5) nd rfl (Or.inl rfl)) (fun _ _ _ _ _ => pts_nil) (fun _ _ _ _ _ => bmK K PySem.F.plainAttrs_list PySem.F.slot_list_index PySem.F.type_list_index (mtIx K) (pv 3) (pa_cons (pv 5) pa_nil))) pa_nil))) pa_nil)))
      (pss_one (ps_ret (pe_tup (pa_cons (pv 0) (pa_cons (pv 6) (pa_cons (pe_callTy (tupOf K) (by rfl) mtup bTuple (pa_cons (pe_lc (own := [("_law_room", 7)]) (g := gName 7) (tt := tYes) rfl nd (piL K (pv 3)) (blkOk_by (own := [("_law_room", 7)]) (N := nLNumbered) (sc := (defScope sLNumbered)) (by decide +kernel)) (fun _ _ _ _ _ => pg_name (i := 7) nd rfl (Or.inl rfl)) (fun _ _ _ _ _ => pts_nil) (fun _ _ _ _ _ => pe_ix (ixT K) (pv 2) (pv 7) (fun _ _ => rfl))) pa_nil)) pa_nil))))))))), ?_⟩
    obtain ⟨px, vs, rfl, hpx, hvl, hrow⟩ := hx.row
    obtain ⟨py, rfl, hpy⟩ := hy
    have low : ∀ n, ∀ t ∈ it m.succ 0 n, t < m.mv.length := it_all (P := fun t => t < m.mv.length) hv.pos (fun _ _ _ ht => Mc.succ_lt hv ht)
    have few : ∀ n, (it m.succ 0 n).length ≤ m.mv.length := fun n => nodup_lt_length (it_nodup n) (low n)
    refine ⟨by show 1 ≤ sizeLine; decide, fun r nr => ?_⟩
    refine while_m (fun mm σ H' => ∃ (n : Nat) (y5 : Option V), mm = m.mv.length - n ∧ σ = [some (.str ls), some (.ref px), some (.ref py), some (.ref r), some (iv n), y5, none, none] ∧ Same H H' ∧ H' r = some (.lst ((it m.succ 0 n).map iv)))
      ⟨_, 0, none, rfl, rfl, Same.new nr, upd_same⟩ (fun mm σ H' hI => ?_)
    obtain ⟨n, y5, rfl, rfl, hs, hl⟩ := hI
    refine ⟨iv n, rfl, .ref r, rfl, r, _, rfl, .inl (SqL.of hl), _, _, rfl, rfl, _, rfl, ?_⟩
    by_cases hn : n < (it m.succ 0 n).length
    · refine iteP (decide_eq_true (by rw [List.length_map]; omega)) ⟨_, fun σ' H' h => h, ?_⟩
      have e : (it m.succ 0 n)[n]? = some (it m.succ 0 n)[n] := List.getElem?_eq_getElem hn
      generalize hroom : (it m.succ 0 n)[n] = room at e
      have hrl : room < m.mv.length := low n room (List.mem_of_getElem? e)
      obtain ⟨q', hq1, hq2⟩ := hrow room _ (mv_get hrl)
      have fn := few n
      refine ⟨.ref px, rfl, .ref r, rfl, iv n, rfl, r, _, _, _, rfl, rfl, SqL.of hl, atI_nat (iv_get e), px, _, _, _, rfl, rfl, SqT.of (hs _ _ hpx), atI_nat hq1, q', rfl, ⟨_, SqT.of (hs _ _ hq2)⟩, ?_⟩
      refine for_tup (xs := (m.succ room).map iv) (fun i σ' H'' => ∃ y5, σ' = [some (.str ls), some (.ref px), some (.ref py), some (.ref r), some (iv n), y5, none, none] ∧ Same H H'' ∧ H'' r = some (.lst ((pushAll (it m.succ 0 n) ((m.succ room).take i)).map iv)))
        ⟨y5, rfl, hs, hl⟩ (fun i σ' H'' _ hP => ?_) (fun i v σ' H'' hi hP => ?_) (fun σ' H'' hP => ?_)
      · obtain ⟨_, _, s2, _⟩ := hP
        exact SqT.of (s2 _ _ hq2)
      · obtain ⟨y5, rfl, s2, hl2⟩ := hP
        rw [List.getElem?_map] at hi
        obtain ⟨t, ht, rfl⟩ := Option.map_eq_some_iff.mp hi
        have tk : (m.succ room).take (i + 1) = (m.succ room).take i ++ [t] := by rw [List.take_add_one, ht]; rfl
        have nx : pushAll (it m.succ 0 n) ((m.succ room).take (i + 1)) = push (pushAll (it m.succ 0 n) ((m.succ room).take i)) t := by rw [tk, pushAll_snoc]
        generalize hcur : pushAll (it m.succ 0 n) ((m.succ room).take i) = cur at hl2 nx
        have curl : cur.length ≤ 1000 := by
          rw [← hcur]
          refine Nat.le_trans (nodup_lt_length (b := m.mv.length) (pushAll_nodup (it_nodup n)) fun z hz => ?_) hz
          rcases mem_pushAll.mp hz with z1 | z1
          · exact low n z z1
          · exact Mc.succ_lt hv (List.mem_of_mem_take z1)
        have hin := inV_iv t cur
        refine ⟨iv t, rfl, .ref r, rfl, r, _, rfl, .inl (SqL.of hl2), rfl, flat_iv cur, _, rfl, ?_⟩
        by_cases h : t ∈ cur
        · rw [decide_eq_true h] at hin
          refine iteN (by show (!inV (iv t) (cur.map iv)) = false; rw [hin]; rfl) ⟨_, rfl, s2, ?_⟩
          rw [nx, push_in h]
          exact hl2
        · rw [decide_eq_false h] at hin
          refine iteP (by show (!inV (iv t) (cur.map iv)) = true; rw [hin]; rfl) ?_
          refine ⟨.ref r, rfl, .inl ⟨rfl, _, SqL.of hl2⟩, iv t, rfl, r, _, _, rfl, rfl, hl2, by rw [List.length_map]; exact small (by omega), ?_⟩
          refine ⟨_, rfl, s2.upd nr, ?_⟩
          rw [upd_same, nx, push_out h, List.map_append]
          rfl
      · obtain ⟨y5, rfl, s2, hl2⟩ := hP
        rw [List.length_map, List.take_length, ← it_some e] at hl2
        refine ⟨iv n, rfl, _, _, rfl, rfl, m.mv.length - (n + 1), by omega, n + 1, y5, rfl, rfl, s2, hl2⟩
    · refine iteN (decide_eq_false (by rw [List.length_map]; omega)) ?_
      have ec : it m.succ 0 n = m.come := Mc.come_any hv (b := n) (by omega)
      rw [ec] at hl
      have clow := Mc.come_lt hv
      have cfew := Mc.come_len hv
      refine ⟨.ref r, rfl, r, rfl, ⟨_, SqL.of hl⟩, fun D6 hD6 => ?_⟩
      refine lc_of_list (xs := m.come.map iv) (fun j v H' => ∀ u, m.come[j]? = some u → NumsAt H' v ((m.succ u).map fun t => m.come.idxOf t)) (fun i v H1 H2 h st r e => (h r e).tst st) hD6 (fun H6 st6 => SqL.of (st6 _ _ hl)) (by rw [List.length_map]; exact small' (by omega)) (fun i v hi => ?_) (fun H6 ys st6 hD6l hyl6 hys6 => ?_)
      · intro H6 R S st6 hR
        rw [List.getElem?_map] at hi
        obtain ⟨u, hu', rfl⟩ := Option.map_eq_some_iff.mp hi
        have uin := List.mem_of_getElem? hu'
        obtain ⟨q', hq1, hq2⟩ := hrow u _ (mv_get (clow u uin))
        have s6 := hs.trans st6
        refine ⟨rfl, ?_⟩
        refine ⟨.ref px, rfl, iv u, rfl, px, _, _, _, rfl, rfl, SqT.of (s6 _ _ hpx), atI_nat hq1, q', rfl, ⟨_, SqT.of (s6 _ _ hq2)⟩, fun D7 hD7 => ?_⟩
        refine lc_of_tup (xs := (m.succ u).map iv) (fun j v _ => ∀ t, (m.succ u)[j]? = some t → v = iv (m.come.idxOf t)) (fun i v _ _ h _ => h) hD7 (fun H7 st7 => SqT.of (st7 _ _ (s6 _ _ hq2))) (by rw [List.length_map, Mc.succ_len hv (clow u uin)]; exact small' (by omega)) (fun j v hj => ?_) (fun H7 ys st7 hD7l hyl7 hys7 => ?_)
        · intro H7 R' S' st7 hR'
          rw [List.getElem?_map] at hj
          obtain ⟨t, ht, rfl⟩ := Option.map_eq_some_iff.mp hj
          have tin := Mc.come_closed hv uin (List.mem_of_getElem? ht)
          have hl7 := st7 _ _ (st6 _ _ hl)
          refine ⟨rfl, ?_⟩
          refine ⟨.ref r, rfl, .inl ⟨rfl, _, SqL.of hl7⟩, iv t, rfl, ix_of hl7 tin (hR' _ _ (Same.refl _) fun t' e => ?_)⟩
          rw [ht] at e
          cases e
          rfl
        · have eys : ys = ((m.succ u).map fun t => m.come.idxOf t).map iv := by
            rw [List.map_map]
            exact all_map (f := fun t => iv (m.come.idxOf t)) (by rw [hyl7, List.length_map]) hys7
          rw [eys] at hD7l
          refine ⟨D7, _, rfl, .inl ⟨SqL.of hD7l, fun t7 nt7 => hR _ _ (st7.trans (Same.new nt7)) fun r' e => ?_⟩⟩
          rw [hu'] at e
          cases e
          exact ⟨t7, rfl, upd_same⟩
      · refine ⟨D6, _, rfl, .inl ⟨SqL.of hD6l, fun t6 nt6 => ?_⟩⟩
        have st7 : Same H' (upd H6 t6 (.tup ys)) := st6.trans (Same.new nt6)
        refine ⟨.str ls, rfl, .ref t6, rfl, .ref r, rfl, r, rfl, ⟨_, SqL.of (st7 _ _ hl)⟩, fun D8 hD8 => ?_⟩
        refine lc_of_list (xs := m.come.map iv) (fun j v _ => ∀ u, m.come[j]? = some u → v = .bl (m.y u)) (fun i v H1 H2 h st r e => h r e) hD8 (fun H8 st8 => SqL.of (st8 _ _ (st7 _ _ hl))) (by rw [List.length_map]; exact small' (by omega)) (fun i v hi => ?_) (fun H8 zs st8 hD8l hzl8 hzs8 => ?_)
        · intro H8 R S st8 hR
          rw [List.getElem?_map] at hi
          obtain ⟨u, hu', rfl⟩ := Option.map_eq_some_iff.mp hi
          refine ⟨rfl, ?_⟩
          refine ⟨.ref py, rfl, iv u, rfl, py, _, _, _, rfl, rfl, SqT.of (st8 _ _ (st7 _ _ (hs _ _ hpy))), atI_nat (bl_get (ys_get hv (clow u (List.mem_of_getElem? hu')))), hR _ _ (Same.refl _) fun r' e => ?_⟩
          rw [hu'] at e
          cases e
          rfl
        · have ezs : zs = (m.come.map m.y).map V.bl := by
            rw [List.map_map]
            exact all_map (f := fun r => V.bl (m.y r)) (by rw [hzl8, List.length_map]) hzs8
          rw [ezs] at hD8l
          refine ⟨D8, _, rfl, .inl ⟨SqL.of hD8l, fun t8 nt8 => ?_⟩⟩
          refine ⟨by show 3 ≤ sizeLine; decide, fun p9 np9 => ?_⟩
          have st9 : Same (upd H6 t6 (.tup ys)) (upd (upd H8 t8 (.tup ((m.come.map m.y).map V.bl))) p9 (.tup [.str ls, .ref t6, .ref t8])) := st8.trans ((Same.new nt8).trans (Same.new np9))
          have ne9 : t8 ≠ p9 := fun e => by
            rw [← e, upd_same] at np9
            cases np9
          refine q _ _ (hs.trans (st7.trans st9)) ⟨p9, .ref t6, .ref t8, rfl, upd_same, ?_, ⟨t8, rfl, by rw [upd_ne ne9, upd_same]; rfl⟩⟩
          refine ⟨t6, ys, rfl, st9 _ _ upd_same, paired_of ?_ fun j a b ea eb => ?_⟩
          · rw [hyl6, Mc.renum_len, List.length_map]
          · have eb : (m.come.map fun r => (m.succ r).map fun t => m.come.idxOf t)[j]? = some b := eb
            rw [List.getElem?_map] at eb
            obtain ⟨u, hu', rfl⟩ := Option.map_eq_some_iff.mp eb
            exact (hys6 j a ea u hu').tst ((Same.new nt6).trans st9).tst
end
end Cw
set_option linter.all false
/-! What _law_least computes, plainly. -/
namespace Cw
open Kw
section
variable {m : Mc} {k : Nat}
theorem idx_inj {α : Type} [BEq α] [LawfulBEq α] {l : List α} {x y : α} (hx : x ∈ l) (hy : y ∈ l) (h : l.idxOf x = l.idxOf y) : x = y := by
  have e1 := List.getElem_idxOf (List.idxOf_lt_length_of_mem hx)
  have e2 := List.getElem_idxOf (List.idxOf_lt_length_of_mem hy)
  rw [← e1, ← e2]
  congr 1
def keyOf (m : Mc) (c : Nat → Nat) (r : Nat) : List Int := (c r :: (m.succ r).map c).map fun (n : Nat) => (n : Int)
theorem ints_inj {a b : List Nat} (h : a.map (fun (n : Nat) => (n : Int)) = b.map fun (n : Nat) => (n : Int)) : a = b := by
  have := congrArg (List.map Int.toNat) h
  rw [List.map_map, List.map_map] at this
  have e : ∀ l : List Nat, l.map (Int.toNat ∘ fun (n : Nat) => (n : Int)) = l := fun l => (List.map_congr_left fun x _ => rfl).trans (List.map_id l)
  rw [e, e] at this
  exact this
theorem keyOf_eq {c : Nat → Nat} {r s : Nat} : keyOf m c r = keyOf m c s ↔ c r = c s ∧ (m.succ r).map c = (m.succ s).map c := by
  constructor
  · intro h
    have := ints_inj h
    exact ⟨(List.cons.inj this).1, (List.cons.inj this).2⟩
  · rintro ⟨h1, h2⟩
    unfold keyOf
    rw [h1, h2]
structure WayL (m : Mc) (c : Nat → Nat) (many : Nat) : Prop where
  way : m.Way c many
  low : many = 0 ∨ ∀ r < m.mv.length, c r < card ((List.range m.mv.length).map c)
variable (h : m.Canon k)
include h
theorem WayL.turn {c : Nat → Nat} {many : Nat} (w : WayL m c many) {KK : List (List Int)} (hn : KK.Nodup) (h1 : ∀ r < m.mv.length, keyOf m c r ∈ KK) (h2 : ∀ x ∈ KK, ∃ r < m.mv.length, x = keyOf m c r) :
    WayL m (fun r => KK.idxOf (keyOf m c r)) (card ((List.range m.mv.length).map c)) := by
  have hc := h.order
  refine ⟨?_, .inr fun r hr => ?_⟩
  · have := w.way.turn (c' := fun r => KK.idxOf (keyOf m c r)) h.toValid fun r hr s hs => by
      rw [hc, List.mem_range] at hr hs
      constructor
      · intro e
        exact keyOf_eq.mp (idx_inj (h1 r hr) (h1 s hs) e)
      · intro e
        show KK.idxOf (keyOf m c r) = KK.idxOf (keyOf m c s)
        rw [keyOf_eq.mpr e]
    rw [hc] at this
    exact this
  · have e : card ((List.range m.mv.length).map fun r => KK.idxOf (keyOf m c r)) = KK.length := by
      rw [card_same (m := List.range KK.length) fun x => ?_]
      · unfold card
        rw [once_of_nodup List.nodup_range, List.length_range]
      · rw [List.mem_map, List.mem_range]
        constructor
        · rintro ⟨r, hr, rfl⟩
          exact List.idxOf_lt_length_of_mem (h1 r (List.mem_range.mp hr))
        · intro hx
          obtain ⟨r, hr, e⟩ := h2 _ (List.getElem_mem hx)
          exact ⟨r, List.mem_range.mpr hr, by rw [← e, hn.idxOf_getElem]⟩
    rw [e]
    exact List.idxOf_lt_length_of_mem (h1 r hr)
theorem WayL.le {c : Nat → Nat} {many : Nat} (w : WayL m c many) : many ≤ card ((List.range m.mv.length).map c) := by
  have := w.way.le
  rw [h.order] at this
  exact this
theorem card_n (c : Nat → Nat) : card ((List.range m.mv.length).map c) ≤ m.mv.length := by
  have := Kw.card_le ((List.range m.mv.length).map c)
  rw [List.length_map, List.length_range] at this
  exact this
theorem card_pos' (c : Nat → Nat) : 0 < card ((List.range m.mv.length).map c) := by
  have := Mc.card_pos (m := m) (c := c)
  rw [h.order] at this
  exact this
/-- behind the loop: all rooms told apart, by the numbers below the number of rooms -/
theorem WayL.done {c : Nat → Nat} {many : Nat} (w : WayL m c many) (he : card ((List.range m.mv.length).map c) ≤ many) : many = m.mv.length ∧ ((List.range m.mv.length).map c).Nodup ∧ ∀ r < m.mv.length, c r < m.mv.length := by
  have hp := w.way.done h.toValid (by rw [h.order]; exact he)
  have hi : ∀ r < m.mv.length, ∀ s < m.mv.length, c r = c s → r = s := fun r hr s hs e => h.apart r hr s hs ((hp r (by rw [h.order]; exact List.mem_range.mpr hr) s (by rw [h.order]; exact List.mem_range.mpr hs)).mp e)
  have hn : ((List.range m.mv.length).map c).Nodup := by
    rw [List.nodup_iff_pairwise_ne, List.pairwise_map]
    refine List.Pairwise.imp_of_mem ?_ List.nodup_range
    intro a b ha hb hne e
    exact hne (hi a (List.mem_range.mp ha) b (List.mem_range.mp hb) e)
  have hcd : card ((List.range m.mv.length).map c) = m.mv.length := by
    unfold card
    rw [once_of_nodup hn, List.length_map, List.length_range]
  have hle := WayL.le h w
  refine ⟨by omega, hn, fun r hr => ?_⟩
  rcases w.low with z | z
  · have := h.pos
    omega
  · have := z r hr
    omega
omit h in
theorem nodup_full {l : List Nat} {n : Nat} (hn : l.Nodup) (hl : l.length = n) (h : ∀ x ∈ l, x < n) {x : Nat} (hx : x < n) : x ∈ l := by
  by_cases q : x ∈ l
  · exact q
  · have := nodup_lt_length (b := n) (List.nodup_cons.mpr ⟨q, hn⟩) fun y hy => by
      rcases List.mem_cons.mp hy with e | hy
      · rw [e]; exact hx
      · exact h y hy
    rw [List.length_cons] at this
    omega
/-- the order that begins with the first room's class -/
def ordOf (c : Nat → Nat) (n : Nat) : List Nat := c 0 :: (List.range n).filter fun x => !decide (x = c 0)
/-- the numbering that the law makes, told: what is made of the machine again -/
theorem least_perm {c : Nat → Nat} (hn : ((List.range m.mv.length).map c).Nodup) (hl : ∀ r < m.mv.length, c r < m.mv.length) :
    (ordOf c m.mv.length).length = m.mv.length ∧ (∀ x, x ∈ ordOf c m.mv.length ↔ x < m.mv.length) ∧ (∀ x < m.mv.length, x ∈ (List.range m.mv.length).map c) ∧
    (Mc.mk ((ordOf c m.mv.length).map fun o => (m.succ (((List.range m.mv.length).map c).idxOf o)).map fun t => (ordOf c m.mv.length).idxOf (c t)) ((ordOf c m.mv.length).map fun o => m.y (((List.range m.mv.length).map c).idxOf o))).renum = m ∧
    (Mc.mk ((ordOf c m.mv.length).map fun o => (m.succ (((List.range m.mv.length).map c).idxOf o)).map fun t => (ordOf c m.mv.length).idxOf (c t)) ((ordOf c m.mv.length).map fun o => m.y (((List.range m.mv.length).map c).idxOf o))).Valid k := by
  have npos := h.pos
  have full : ∀ x < m.mv.length, x ∈ (List.range m.mv.length).map c := fun x hx => nodup_full hn (by rw [List.length_map, List.length_range]) (fun y hy => by
    obtain ⟨r, hr, rfl⟩ := List.mem_map.mp hy
    exact hl r (List.mem_range.mp hr)) hx
  have mo : ∀ x, x ∈ ordOf c m.mv.length ↔ x < m.mv.length := fun x => by
    unfold ordOf
    rw [List.mem_cons, List.mem_filter, List.mem_range]
    constructor
    · rintro (e | e)
      · rw [e]; exact hl 0 npos
      · exact e.1
    · intro hx
      by_cases e : x = c 0
      · exact .inl e
      · exact .inr ⟨hx, by simpa using e⟩
  have on : (ordOf c m.mv.length).Nodup := by
    unfold ordOf
    refine List.nodup_cons.mpr ⟨fun z => ?_, List.nodup_range.filter _⟩
    have := (List.mem_filter.mp z).2
    simp at this
  have ol : (ordOf c m.mv.length).length = m.mv.length := by
    refine Nat.le_antisymm (nodup_lt_length on fun x hx => (mo x).mp hx) ?_
    have := nodup_sub_length (List.nodup_range (n := m.mv.length)) (m := ordOf c m.mv.length) fun x hx => (mo x).mpr (List.mem_range.mp hx)
    rw [List.length_range] at this
    exact this
  -- f: the room of a class
  have fi : ∀ x < m.mv.length, ((List.range m.mv.length).map c).idxOf x < m.mv.length ∧ c (((List.range m.mv.length).map c).idxOf x) = x := fun x hx => by
    have h1 := List.idxOf_lt_length_of_mem (full x hx)
    have h2 := List.getElem_idxOf h1
    rw [List.getElem_map, List.getElem_range] at h2
    rw [List.length_map, List.length_range] at h1
    exact ⟨h1, h2⟩
  have fc : ∀ r < m.mv.length, ((List.range m.mv.length).map c).idxOf (c r) = r := fun r hr => by
    have hl' : r < ((List.range m.mv.length).map c).length := by rw [List.length_map, List.length_range]; exact hr
    have := hn.idxOf_getElem r hl'
    rw [List.getElem_map, List.getElem_range] at this
    exact this
  generalize hO : ordOf c m.mv.length = O at mo on ol
  have ol' : ∀ i, i < m.mv.length → i < O.length := fun i hi => by omega
  have og : ∀ i, i < m.mv.length → O.getD i 0 < m.mv.length ∧ O.idxOf (O.getD i 0) = i := fun i hi => by
    have e : O.getD i 0 = O[i]'(ol' i hi) := by rw [List.getD_eq_getElem?_getD, List.getElem?_eq_getElem (ol' i hi)]; rfl
    rw [e]
    exact ⟨(mo _).mp (List.getElem_mem _), on.idxOf_getElem i (ol' i hi)⟩
  have h0 : O.getD 0 0 = c 0 := by
    rw [← hO]
    rfl
  have iO : ∀ x, x < m.mv.length → O.idxOf x < m.mv.length ∧ O.getD (O.idxOf x) 0 = x := fun x hx => by
    have h1 := List.idxOf_lt_length_of_mem ((mo x).mpr hx)
    refine ⟨by omega, ?_⟩
    rw [List.getD_eq_getElem?_getD, List.getElem?_eq_getElem h1]
    exact List.getElem_idxOf _
  have eqO : ∀ {α : Type} (F : Nat → α), O.map F = (List.range m.mv.length).map fun i => F (O.getD i 0) := fun F => by
    refine List.ext_getElem (by simp [ol]) fun i h1 h2 => ?_
    have hi : i < O.length := by simpa using h1
    rw [List.getElem_map, List.getElem_map, List.getElem_range, List.getD_eq_getElem?_getD, List.getElem?_eq_getElem hi]
    rfl
  have re := Mc.perm_renum h (n := m.mv.length) rfl (g := fun i => ((List.range m.mv.length).map c).idxOf (O.getD i 0)) (inv := fun t => if t < m.mv.length then O.idxOf (c t) else 0)
    (fun i hi => (fi _ (og i hi).1).1) (by show ((List.range m.mv.length).map c).idxOf (O.getD 0 0) = 0; rw [h0, fc 0 npos])
    (fun i hi => by
      have h1 := fi _ (og i hi).1
      show (if _ < _ then _ else _) = i
      rw [if_pos h1.1, h1.2, (og i hi).2])
    (fun t ht => by
      show (if _ < _ then _ else _) < _
      rw [if_pos ht]
      exact (iO _ (hl t ht)).1)
    (fun t ht => by
      show ((List.range m.mv.length).map c).idxOf (O.getD (if t < m.mv.length then O.idxOf (c t) else 0) 0) = t
      rw [if_pos ht, (iO _ (hl t ht)).2, fc t ht])
  have em : (O.map fun o => (m.succ (((List.range m.mv.length).map c).idxOf o)).map fun t => O.idxOf (c t)) = (List.range m.mv.length).map fun i => (m.succ (((List.range m.mv.length).map c).idxOf (O.getD i 0))).map fun t => if t < m.mv.length then O.idxOf (c t) else 0 := by
    rw [eqO]
    refine List.map_congr_left fun i hi => List.map_congr_left fun t ht => ?_
    rw [if_pos (Mc.succ_lt h.toValid ht)]
  have ey : (O.map fun o => m.y (((List.range m.mv.length).map c).idxOf o)) = (List.range m.mv.length).map fun i => m.y (((List.range m.mv.length).map c).idxOf (O.getD i 0)) := eqO _
  refine ⟨ol, mo, full, by rw [em, ey]; exact re, ?_, ?_, fun row hrow => ?_, fun row hrow t ht => ?_⟩
  · show 0 < (O.map _).length
    rw [List.length_map]
    omega
  · show (O.map _).length = (O.map _).length
    rw [List.length_map, List.length_map]
  · obtain ⟨o, ho, rfl⟩ := List.mem_map.mp hrow
    rw [List.length_map]
    exact Mc.succ_len h.toValid (fi o ((mo o).mp ho)).1
  · obtain ⟨o, ho, rfl⟩ := List.mem_map.mp hrow
    obtain ⟨u, hu, rfl⟩ := List.mem_map.mp ht
    show O.idxOf (c u) < (O.map _).length
    rw [List.length_map, ol]
    exact (iO _ (hl u (Mc.succ_lt h.toValid hu))).1
end
end Cw
set_option Elab.async false
set_option linter.all false
set_option maxRecDepth 100000
set_option maxHeartbeats 4000000
/-! Machines, keys as nested data. -/
namespace Cw
open PySem PySem.Spec PyProof.Rows L2 Kw
abbrev tiD (k : List Int) : PyData := .tuple (k.map .int)
theorem eqv_ints : ∀ a b : List Int, PyData.eqvAll (a.map .int) (b.map .int) = decide (a = b)
  | [], [] => by simp [PyData.eqvAll]
  | [], _ :: _ => by simp [PyData.eqvAll]
  | _ :: _, [] => by simp [PyData.eqvAll]
  | x :: a, y :: b => by
    rw [List.map_cons, List.map_cons, PyData.eqvAll, eqv_ints a b, PyData.eqv]
    by_cases e : x = y <;> by_cases e2 : a = b <;> simp [e, e2]
theorem eqv_ti (a b : List Int) : PyData.eqv (tiD a) (tiD b) = decide (a = b) := by
  rw [PyData.eqv, eqv_ints]
theorem lay_ints : ∀ a : List Int, PyData.canLayAll0 (a.map .int) = true
  | [] => by simp [PyData.canLayAll0]
  | x :: a => by rw [List.map_cons, PyData.canLayAll0, lay_ints a]; simp [PyData.canLay0]
theorem dep_ints : ∀ a : List Int, PyData.depthAll (a.map .int) = 0
  | [] => by simp [PyData.depthAll]
  | x :: a => by rw [List.map_cons, PyData.depthAll, dep_ints a]; simp [PyData.depth]
theorem lay_tis : ∀ l : List (List Int), PyData.canLayAll0 (l.map tiD) = true
  | [] => by simp [PyData.canLayAll0]
  | x :: l => by
    rw [List.map_cons, PyData.canLayAll0, lay_tis l, PyData.canLay0, lay_ints x]
    rfl
theorem dep_tis : ∀ l : List (List Int), PyData.depthAll (l.map tiD) ≤ 1
  | [] => by simp [PyData.depthAll]
  | x :: l => by
    have := dep_tis l
    rw [List.map_cons, PyData.depthAll, PyData.depth, dep_ints]
    omega
theorem lay_bls : ∀ a : List Bool, PyData.canLayAll0 (a.map .bool) = true
  | [] => by simp [PyData.canLayAll0]
  | x :: a => by rw [List.map_cons, PyData.canLayAll0, lay_bls a]; simp [PyData.canLay0]
theorem dep_bls : ∀ a : List Bool, PyData.depthAll (a.map .bool) = 0
  | [] => by simp [PyData.depthAll]
  | x :: a => by rw [List.map_cons, PyData.depthAll, dep_bls a]; simp [PyData.depth]
theorem shape_ti (k : List Int) : SeqAt.shaped (tiD k) = true := by
  unfold SeqAt.shaped
  rw [PyData.canLay0, lay_ints, PyData.depth, dep_ints]
  rfl
theorem shape_tis (l : List (List Int)) : SeqAt.shaped (.list (l.map tiD)) = true := by
  have := dep_tis l
  unfold SeqAt.shaped
  rw [PyData.canLay0, lay_tis, PyData.depth, Bool.true_and]
  exact decide_eq_true (by omega)
section
variable {K : PySem.W.Frag} {H : Hp}
theorem dp_ints : ∀ a : List Int, DpAll K H (a.map V.int) (a.map .int)
  | [] => .nil
  | x :: a => .cons (.int x) (dp_ints a)
theorem dp_bls : ∀ a : List Bool, DpAll K H (a.map V.bl) (a.map .bool)
  | [] => .nil
  | x :: a => .cons (.bl x) (dp_bls a)
theorem dp_ti {p : Addr} {k : List Int} (h : H p = some (.tup (k.map V.int))) : Dp K H (.ref p) (tiD k) := .tup (SqT.of h) (dp_ints k)
theorem dp_tis : ∀ {L : List (Addr × List Int)}, (∀ p ∈ L, H p.1 = some (.tup (p.2.map V.int))) → DpAll K H (L.map fun p => V.ref p.1) ((L.map (·.2)).map tiD)
  | [], _ => .nil
  | x :: L, h => .cons (dp_ti (h x List.mem_cons_self)) (dp_tis fun p hp => h p (List.mem_cons_of_mem _ hp))
theorem mtIxD (K : PySem.W.Frag) {X : Cx} (hu : X.A.units + 65 < cLine) (h : X.K = K := by rfl) : MtR X "list.index" (rIndexD K) := by
  subst h
  exact mt_indexD hu
/-- xs.index(t), t a tuple of numbers, there -/
theorem ixD_of {a q : Addr} {L : List (Addr × List Int)} {key : List Int} {Q : VK} (h : H a = some (.lst (L.map fun p => V.ref p.1))) (hL : ∀ p ∈ L, H p.1 = some (.tup (p.2.map V.int))) (hq : H q = some (.tup (key.map V.int))) (hk : key ∈ L.map (·.2)) (hQ : Q (iv ((L.map (·.2)).idxOf key)) H) :
    rIndexD K (.ref a) [.ref q] H Q := by
  have hl := List.idxOf_lt_length_of_mem hk
  refine ⟨a, .ref q, tiD key, (L.map (·.2)).map tiD, (L.map (·.2)).idxOf key, tiD key, rfl, rfl, .lst (SqL.of h) (dp_tis hL), dp_ti hq, shape_tis _, shape_ti _, ?_, by rw [eqv_ti]; simp, fun m z' hm hz => ?_, hQ⟩
  · rw [List.getElem?_map, List.getElem?_eq_getElem hl, List.getElem_idxOf]
    rfl
  · rw [List.getElem?_map] at hz
    obtain ⟨x, hx, rfl⟩ := Option.map_eq_some_iff.mp hz
    rw [eqv_ti]
    refine decide_eq_false fun e => ?_
    subst e
    obtain ⟨hxl, ex⟩ := List.getElem?_eq_some_iff.mp hx
    have := List.not_of_lt_findIdx (p := (· == x)) (xs := L.map (fun p : Addr × List Int => p.2)) (i := m) hm
    rw [ex] at this
    simp at this
/-- a machine as data -/
def mcD (ls : Str) (m : Mc) : PyData := .tuple [.str ls, .tuple ((m.mv.map fun r => r.map fun (n : Nat) => (n : Int)).map tiD), .tuple (m.ys.map .bool)]
theorem dp_mv : ∀ {vs : List V} {mv : List (List Nat)}, Paired (NumsAt H) vs mv → DpAll K H vs ((mv.map fun r => r.map fun (n : Nat) => (n : Int)).map tiD)
  | _, _, .nil => .nil
  | _, _, .cons (b := r) ⟨p, e, h⟩ t => .cons (by
      subst e
      refine dp_ti ?_
      rw [h, List.map_map]
      rfl) (dp_mv t)
theorem dp_mc {v : V} {ls : Str} {m : Mc} (h : McAt H v ls m) : Dp K H v (mcD ls m) := by
  obtain ⟨p, x, y, rfl, hp, ⟨px, vs, rfl, hpx, hr⟩, ⟨py, rfl, hpy⟩⟩ := h
  exact .tup (SqT.of hp) (.cons (.str ls) (.cons (.tup (SqT.of hpx) (dp_mv hr)) (.cons (.tup (SqT.of hpy) (dp_bls m.ys)) .nil)))
theorem lay_mc {ls : Str} {m : Mc} (h : PyData.canLay0 (.str ls) = true) : (mcD ls m).canLay0 = true := by
  unfold mcD
  rw [PyData.canLay0, PyData.canLayAll0, h, PyData.canLayAll0, PyData.canLayAll0, PyData.canLay0, lay_tis, PyData.canLay0, lay_bls, PyData.canLayAll0]
  rfl
theorem shape_mc {ls : Str} {m : Mc} (h : PyData.canLay0 (.str ls) = true) : SeqAt.shaped (mcD ls m) = true := by
  have h2 := dep_tis (m.mv.map fun r => r.map fun (n : Nat) => (n : Int))
  unfold SeqAt.shaped
  rw [lay_mc h, Bool.true_and]
  refine decide_eq_true ?_
  unfold mcD
  rw [PyData.depth, PyData.depthAll, PyData.depthAll, PyData.depthAll, PyData.depthAll, PyData.depth, PyData.depth, PyData.depth, dep_bls]
  omega
end
end Cw
set_option Elab.async false
set_option linter.all false
set_option maxRecDepth 100000
set_option maxHeartbeats 8000000
/-! _law_least -/
namespace Cw
open PySem PySem.Spec PyProof.Rows L2 Kw
section
variable {P : Program} {w : World} {K : PySem.W.Frag} {mg : Str → Option Value} {base : Heap}
def spLLeast : Sp := fun vs H Q _ => ∃ (x : V) (ls : Str) (m : Mc) (k : Nat), vs = [x] ∧ McAt H x ls m ∧ m.Canon k ∧ 0 < k ∧ k ≤ 100 ∧ m.mv.length ≤ 60 ∧ ∀ H' v, Same H H' → McAt H' v ls m → Q v H'
theorem paired_iv {ys : List V} {l : List Nat} {H : Hp} (h : Paired (fun y i => y = iv i) ys l) : ys = l.map iv := by
  induction h with
  | nil => rfl
  | cons e t ih => rw [List.map_cons, ← ih, e]
theorem rangeC {c : Nat → Nat} {n r : Nat} (h : r < n) : ((List.range n).map c)[r]? = some (c r) := by
  rw [List.getElem?_map, List.getElem?_range h]
  rfl
theorem rangeK {α : Type} {c : Nat → α} {n r : Nat} (h : r < n) : ((List.range n).map c)[r]? = some (c r) := by
  rw [List.getElem?_map, List.getElem?_range h]
  rfl
theorem ok_lleast {f fN : Addr} {fd fdN : FuncData} (F : Fun K "_law_least" "_law_least" sLLeast f fd) (GN : FnOk P w K mg base CX0 1 fN fdN ["_law_letters_here", "_law_moves", "_law_yes"] spNumbered) (kN : PySem.W.keepIn K (.ref fN) = true) (bN : Binds K fdN ["_law_letters_here", "_law_moves", "_law_yes"] []) (gN : mg "_law_numbered" = some (.ref fN))
    (mlen : mg "len" = none) (mset : mg "set" = none) (mtup : mg "tuple" = none) (mint : mg "int" = none) (mrng : mg "range" = none) (msor : mg "sorted" = none) : FnOk P w K mg base CX0 2 f fd ["_law_machine"] spLLeast := by
  refine F.ok scLLeast (fun vs H Q E h => ?_) (fun cdv A outer s H vs Q E hr h => ?_)
  · obtain ⟨x, ls, m, k, rfl, _⟩ := h
    rfl
  · obtain ⟨x, ls, m, k, rfl, ⟨p0, a0, b0, rfl, hp0, ha0, hb0⟩, hcm, hk0, hk, hz, q⟩ := h
    have nd := scLLeast.nd
    have hu64 : (A.deeper (envOfC "_law_least" (defScope sLLeast) s.heap.objs.size f cdv)).units + 64 < cLine := by have := hr.un; omega
    have hu65 : (A.deeper (envOfC "_law_least" (defScope sLLeast) s.heap.objs.size f cdv)).units + 65 < cLine := by have := hr.un; omega
    have npos := hcm.pos
    generalize hn : m.mv.length = n at hz npos
    obtain ⟨tT, hpT, hrT⟩ : ∃ t, PSs (cxOf CX0 P w K mg base nLLeast "_law_least" (defScope sLLeast) f cdv A outer s H E).nox ((defBody sLLeast).drop 4) t ∧ ∀ (c : Nat → Nat) (H4 : Hp) (pa pb cl : Addr) (vs : List V) (y7 y8 y9 : Option V), Same H H4 → H4 pa = some (.tup vs) → (∀ (i : Nat) (row : List Nat), m.mv[i]? = some row → ∃ q : Addr, vs[i]? = some (V.ref q) ∧ H4 q = some (.tup (row.map iv))) → H4 pb = some (.tup (m.ys.map V.bl)) → H4 cl = some (.lst (((List.range n).map c).map iv)) →
        ((List.range n).map c).Nodup → (∀ r < n, c r < n) → t { nx := fun _ H' => Q .non H', rt := Q } [some (.ref p0), some (.str ls), some (.ref pa), some (.ref pb), none, some (.ref cl), some (iv n), y7, y8, y9, none, none, none, none, none, none] H4 := by
      refine ⟨_, pss_cons (ps_set (i := 10) nd rfl (by first | exact Or.inl rfl | exact Or.inr rfl) (pe_lc (own := [("_law_one", 4)]) (g := gName 4) (tt := tYes) rfl nd (pi_range1 (by rfl) mrng (pa_cons (pv 6) pa_nil)) (blkOk_by (own := [("_law_one", 4)]) (N := nLLeast) (sc := (defScope sLLeast)) (by decide +kernel)) (fun _ _ _ _ _ => pg_name (i := 4) nd rfl (Or.inl rfl)) (fun _ _ _ _ _ => pts_nil) (fun _ _ _ _ _ => bmK K PySem.F.plainAttrs_list PySem.F.slot_list_index PySem.F.type_list_index (mtIx K) (pv 5) (pa_cons (pv 4) pa_nil))))
      (pss_cons (ps_set (i := 11) nd rfl (by first | exact Or.inl rfl | exact Or.inr rfl) (pe_ix ix_list (pv 5) (pe_int) (fun _ _ => rfl)))
      (pss_cons (ps_set (i := 12) nd rfl (by first | exact Or.inl rfl | exact Or.inr rfl) (pe_op op_cat (pe_lst (pa_cons (pv 11) pa_nil)) (pe_lc (own := [("_law_one", 4)]) (g := gName 4) rfl nd (pi_range1 (by rfl) mrng (pa_cons (pv 6) pa_nil)) (blkOk_by (own := [("_law_one", 4)]) (N := nLLeast) (sc := (defScope sLLeast)) (by decide +kernel)) (fun _ _ _ _ _ => pg_name (i := 4) nd rfl (Or.inl rfl)) (fun _ _ _ _ _ => pts_one (pt_cmpR op_ne (pv 4) (pv 11) (nomark _))) (fun _ _ _ _ _ => pv 4))))
      (pss_cons (ps_set (i := 13) nd rfl (by first | exact Or.inl rfl | exact Or.inr rfl) (pe_lst pa_nil))
      (pss_cons (ps_for PassesOwn.never rfl (pi_list (pv 12)) (pg_name (i := 4) nd rfl (by first | exact Or.inl rfl | exact Or.inr rfl))
      (pss_one (ps_expr (pe_bm PySem.F.plainAttrs_list PySem.F.slot_list_append PySem.F.type_list_append mt_append (pv 13) (pa_cons (pe_callTy (tupOf K) (by rfl) mtup bTuple (pa_cons (pe_lc (own := [("_law_goal", 14)]) (g := gName 14) (tt := tYes) rfl nd (pi_tup (pe_ix ix_tup (pv 2) (pe_ix ix_list (pv 10) (pv 4) (fun _ _ => rfl)) (fun _ _ => rfl))) (blkOk_by (own := [("_law_goal", 14)]) (N := nLLeast) (sc := (defScope sLLeast)) (by decide +kernel)) (fun _ _ _ _ _ => pg_name (i := 14) nd rfl (Or.inl rfl)) (fun _ _ _ _ _ => pts_nil) (fun _ _ _ _ _ => bmK K PySem.F.plainAttrs_list PySem.F.slot_list_index PySem.F.type_list_index (mtIx K) (pv 12) (pa_cons (pe_ix (ixL K) (pv 5) (pv 14) (fun _ _ => rfl)) pa_nil))) pa_nil)) pa_nil)))))
      (pss_one (ps_ret (pe_call GN hr (by rfl) gN kN bN .nil pass0 (pa_cons (pv 1) (pa_cons (pe_callTy call_tuple_of (by rfl) mtup bTuple (pa_cons (pv 13) pa_nil)) (pa_cons (pe_callTy (tupOf K) (by rfl) mtup bTuple (pa_cons (pe_lc (own := [("_law_one", 4)]) (g := gName 4) (tt := tYes) rfl nd (piL K (pv 12)) (blkOk_by (own := [("_law_one", 4)]) (N := nLLeast) (sc := (defScope sLLeast)) (by decide +kernel)) (fun _ _ _ _ _ => pg_name (i := 4) nd rfl (Or.inl rfl)) (fun _ _ _ _ _ => pts_nil) (fun _ _ _ _ _ => pe_ix (ixT K) (pv 3) (pe_ix (ixL K) (pv 10) (pv 4) (fun _ _ => rfl)) (fun _ _ => rfl))) pa_nil)) pa_nil)))))))))), fun c H4 pa pb cl vs y7 y8 y9 s4 hpa hrow hpb hcl hnd hlow => ?_⟩
      have lp := least_perm hcm (c := c) (by rw [hn]; exact hnd) (by rw [hn]; exact hlow)
      rw [hn] at lp
      obtain ⟨ol, mo, full, re, rv⟩ := lp
      have cpos : 0 < n := npos
      -- firsts
      refine ⟨iv n, rfl, (n : Int), rfl, by omega, by omega, fun D1 hD1 => ?_⟩
      refine lc_of_range (lo := 0) (n := n) (fun j v _ => v = iv (((List.range n).map c).idxOf j)) (fun i v _ _ h _ => h) hD1 (small' (by omega)) (fun j hj => ?_) (fun H5 ys st5 hD5 hyl hys => ?_)
      · intro H5 R S st5 hR
        rw [show (0 : Int) + (j : Int) = (j : Int) from Int.zero_add _]
        have hc5 := st5 _ _ hcl
        refine ⟨rfl, ?_⟩
        exact ⟨.ref cl, rfl, .inl ⟨rfl, _, SqL.of hc5⟩, iv j, rfl, ix_of hc5 (full j hj) (hR _ _ (Same.refl _) rfl)⟩
      have ef : ys = ((List.range n).map fun o => ((List.range n).map c).idxOf o).map iv := by
        refine List.ext_getElem (by simp [hyl]) fun i h1 h2 => ?_
        rw [List.getElem_map, List.getElem_map, List.getElem_range]
        exact hys i _ (List.getElem?_eq_getElem h1)
      rw [ef] at hD5
      -- begin, order
      have hcl5 := st5 _ _ hcl
      refine ⟨.ref cl, rfl, cl, _, _, _, rfl, rfl, SqL.of hcl5, (atI_nat (j := 0) (iv_get (rangeC cpos))), ?_⟩
      refine ⟨iv (c 0), rfl, by show 1 ≤ sizeLine; decide, fun l1 nl1 => ?_⟩
      have s6 : Same H5 (upd H5 l1 (.lst [iv (c 0)])) := Same.new nl1
      have hl6 : (upd H5 l1 (.lst [iv (c 0)])) l1 = some (.lst [iv (c 0)]) := upd_same
      generalize upd H5 l1 (.lst [iv (c 0)]) = H6 at s6 hl6
      refine ⟨iv n, rfl, (n : Int), rfl, by omega, by omega, fun D2 hD2 => ?_⟩
      refine lc_filterR (lo := 0) (n := n) (fun x => !decide (x = c 0)) (fun j y _ => y = iv j) (fun i v _ _ h _ => h) hD2 (small' (by omega)) (fun j hj H7 R N st7 hR hN => ?_) (fun H7 ys2 st7 hD7 hys2 => ?_)
      · rw [show (0 : Int) + (j : Int) = (j : Int) from Int.zero_add _]
        refine ⟨rfl, ?_⟩
        refine ⟨iv j, rfl, iv (c 0), rfl, rfl, _, rfl, ?_⟩
        by_cases e : j = c 0
        · exact iteN (by rw [decide_eq_true (congrArg iv e)]; rfl) (hN (by rw [decide_eq_true e]; rfl) _ (Same.refl _))
        · exact iteP (by rw [decide_eq_false fun z => e (Int.ofNat_inj.mp (V.int.inj z))]; rfl) ⟨iv j, rfl, hR (by rw [decide_eq_false e]; rfl) _ _ (Same.refl _) rfl⟩
      have ey2 := paired_iv (H := H7) hys2
      rw [ey2] at hD7
      refine ⟨l1, D2, [iv (c 0)], _, rfl, rfl, st7 _ _ hl6, hD7, ?_, fun o1 no1 => ?_⟩
      · have : ((List.range n).filter fun x => !decide (x = c 0)).length ≤ n := Nat.le_trans (List.length_filter_le _ _) (by rw [List.length_range]; exact Nat.le_refl _)
        rw [List.length_map]
        exact small' (by show 1 + _ ≤ 100000; omega)
      have s8 : Same H5 (upd H7 o1 (.lst ([iv (c 0)] ++ ((List.range n).filter fun x => !decide (x = c 0)).map iv))) := (s6.trans st7).trans (Same.new no1)
      have ho8 : (upd H7 o1 (.lst ([iv (c 0)] ++ ((List.range n).filter fun x => !decide (x = c 0)).map iv))) o1 = some (.lst ((ordOf c n).map iv)) := upd_same
      generalize upd H7 o1 (.lst ([iv (c 0)] ++ ((List.range n).filter fun x => !decide (x = c 0)).map iv)) = H8 at s8 ho8
      have sc8 := st5.trans s8
      -- rows
      refine ⟨by show 0 ≤ sizeLine; decide, fun rl nrl => ?_⟩
      have hcl8 := sc8 _ _ hcl
      have hfi8 := s8 _ _ hD5
      generalize hO : ordOf c n = O at ho8 ol mo re rv
      have oK : ∀ o, o ∈ O → (((List.range n).map c).idxOf o) < n := fun o ho => by
        have := List.idxOf_lt_length_of_mem (full o ((mo o).mp ho))
        rw [List.length_map, List.length_range] at this
        exact this
      have clow : ∀ r < n, ∀ t ∈ m.succ r, t < n := fun r hr t ht => by
        have := Mc.succ_lt hcm.toValid ht
        rw [hn] at this
        exact this
      refine ⟨.ref o1, rfl, o1, rfl, ⟨_, SqL.of ((Same.new nrl) _ _ ho8)⟩, ?_⟩
      refine for_list (xs := O.map iv) (fun i σ' H' => ∃ (y4 : Option V) (vr : List V), σ' = [some (.ref p0), some (.str ls), some (.ref pa), some (.ref pb), y4, some (.ref cl), some (iv n), y7, y8, y9, some (.ref D1), some (iv (c 0)), some (.ref o1), some (.ref rl), none, none] ∧ Same H8 H' ∧ H' rl = some (.lst vr) ∧ vr.length = i ∧
          ∀ (j : Nat) (y : V), vr[j]? = some y → ∀ o, O[j]? = some o → NumsAt H' y ((m.succ (((List.range n).map c).idxOf o)).map fun t => O.idxOf (c t)))
        ⟨none, [], rfl, Same.new nrl, upd_same, rfl, fun j y e => by simp at e⟩ (fun i σ' H' _ hP => ?_) (fun i v σ' H' hi hP => ?_) (fun σ' H' hP => ?_)
      · obtain ⟨_, _, _, s9, _⟩ := hP
        exact SqL.of (s9 _ _ ho8)
      · obtain ⟨y4, vr, rfl, s9, hr9, hl9, hv9⟩ := hP
        rw [List.getElem?_map] at hi
        obtain ⟨o, ho, rfl⟩ := Option.map_eq_some_iff.mp hi
        have oin := List.mem_of_getElem? ho
        have hil := (List.getElem?_eq_some_iff.mp ho).1
        have fl := oK o oin
        have on := (mo o).mp oin
        obtain ⟨q', hq1, hq2⟩ := hrow _ _ (mv_get (m := m) (r := ((List.range n).map c).idxOf o) (by rw [hn]; exact fl))
        have s49 := sc8.trans s9
        have hf9 := s9 _ _ hfi8
        refine ⟨.ref rl, rfl, .inl ⟨rfl, _, SqL.of hr9⟩, .ref pa, rfl, .ref D1, rfl, iv o, rfl, D1, _, _, _, rfl, rfl, SqL.of hf9, atI_nat (iv_get (rangeC (c := fun o => ((List.range n).map c).idxOf o) on)), pa, _, _, _, rfl, rfl, SqT.of (s49 _ _ hpa), atI_nat hq1, q', rfl, ⟨_, SqT.of (s49 _ _ hq2)⟩, fun D7 hD7 => ?_⟩
        refine lc_of_tup (xs := (m.succ (((List.range n).map c).idxOf o)).map iv) (fun j v _ => ∀ t, (m.succ (((List.range n).map c).idxOf o))[j]? = some t → v = iv (O.idxOf (c t))) (fun i v _ _ h _ => h) hD7 (fun H7 st7 => SqT.of (st7 _ _ (s49 _ _ hq2))) (by rw [List.length_map, Mc.succ_len hcm.toValid (by rw [hn]; exact fl)]; exact small' (by omega)) (fun j v hj => ?_) (fun H7 ys st7 hD7l hyl7 hys7 => ?_)
        · intro H7 R' S' st7 hR'
          rw [List.getElem?_map] at hj
          obtain ⟨t, ht, rfl⟩ := Option.map_eq_some_iff.mp hj
          have tl := clow _ fl t (List.mem_of_getElem? ht)
          have ho7 := st7 _ _ (s9 _ _ ho8)
          refine ⟨rfl, ?_⟩
          refine ⟨.ref o1, rfl, .inl ⟨rfl, _, SqL.of ho7⟩, .ref cl, rfl, iv t, rfl, cl, _, _, _, rfl, rfl, SqL.of (st7 _ _ (s9 _ _ hcl8)), atI_nat (iv_get (rangeC tl)), ix_of ho7 ((mo _).mpr (hlow t tl)) (hR' _ _ (Same.refl _) fun t' e => ?_)⟩
          rw [ht] at e
          cases e
          rfl
        · have eys : ys = ((m.succ (((List.range n).map c).idxOf o)).map fun t => O.idxOf (c t)).map iv := by
            rw [List.map_map]
            exact all_map (f := fun t => iv (O.idxOf (c t))) (by rw [hyl7, List.length_map]) hys7
          rw [eys] at hD7l
          refine ⟨D7, _, rfl, .inl ⟨SqL.of hD7l, fun t7 nt7 => ?_⟩⟩
          have s10 : Same H' (upd H7 t7 (.tup (((m.succ (((List.range n).map c).idxOf o)).map fun t => O.idxOf (c t)).map iv))) := st7.trans (Same.new nt7)
          have ht7 : (upd H7 t7 (.tup (((m.succ (((List.range n).map c).idxOf o)).map fun t => O.idxOf (c t)).map iv))) t7 = some (.tup (((m.succ (((List.range n).map c).idxOf o)).map fun t => O.idxOf (c t)).map iv)) := upd_same
          generalize upd H7 t7 (.tup (((m.succ (((List.range n).map c).idxOf o)).map fun t => O.idxOf (c t)).map iv)) = H10 at s10 ht7
          have hr10 := s10 _ _ hr9
          have ts := ts_lst (u := .lst (vr ++ [.ref t7])) hr10
          refine ⟨rl, vr, _, rfl, rfl, hr10, small (by omega), ?_⟩
          refine ⟨_, vr ++ [.ref t7], rfl, (s9.trans s10).upd nrl, upd_same, by rw [List.length_append, hl9]; rfl, fun jj y e o' eo => ?_⟩
          by_cases hjn : jj < i
          · rw [List.getElem?_append_left (by omega)] at e
            exact (hv9 jj y e o' eo).tst (s10.tst.trans ts)
          · have hjn2 : jj = i := by
              have := (List.getElem?_eq_some_iff.mp e).1
              rw [List.length_append, List.length_singleton, hl9] at this
              omega
            subst hjn2
            rw [List.getElem?_append_right (by omega), hl9, Nat.sub_self] at e
            cases e
            rw [ho] at eo
            cases eo
            exact ⟨t7, rfl, ts _ _ ht7⟩
      · obtain ⟨y4, vr, rfl, s9, hr9, hl9, hv9⟩ := hP
        rw [List.length_map] at hl9
        have s49 := sc8.trans s9
        refine ⟨.str ls, rfl, .ref rl, rfl, rl, vr, rfl, .inl ⟨SqL.of hr9, fun t1 nt1 => ?_⟩⟩
        have s10 : Same H' (upd H' t1 (.tup vr)) := Same.new nt1
        have ho10 := s10 _ _ (s9 _ _ ho8)
        refine ⟨.ref o1, rfl, o1, rfl, ⟨_, SqL.of ho10⟩, fun D9 hD9 => ?_⟩
        refine lc_of_list (xs := O.map iv) (fun j v _ => ∀ o, O[j]? = some o → v = .bl (m.y (((List.range n).map c).idxOf o))) (fun i v H1 H2 h st r e => h r e) hD9 (fun H8 st8 => SqL.of (st8 _ _ ho10)) (by rw [List.length_map]; exact small' (by omega)) (fun i v hi => ?_) (fun H11 zs st11 hD11 hzl hzs => ?_)
        · intro H11 R S st11 hR
          rw [List.getElem?_map] at hi
          obtain ⟨o, ho, rfl⟩ := Option.map_eq_some_iff.mp hi
          have oin := List.mem_of_getElem? ho
          have fl := oK o oin
          have s411 := s49.trans (s10.trans st11)
          refine ⟨rfl, ?_⟩
          refine ⟨.ref pb, rfl, .ref D1, rfl, iv o, rfl, D1, _, _, _, rfl, rfl, SqL.of (st11 _ _ (s10 _ _ (s9 _ _ hfi8))), atI_nat (iv_get (rangeC (c := fun o => ((List.range n).map c).idxOf o) ((mo o).mp oin))), pb, _, _, _, rfl, rfl, SqT.of (s411 _ _ hpb), atI_nat (bl_get (ys_get hcm.toValid (by rw [hn]; exact fl))), hR _ _ (Same.refl _) fun r' e => ?_⟩
          rw [ho] at e
          cases e
          rfl
        · have ezs : zs = (O.map fun o => m.y (((List.range n).map c).idxOf o)).map V.bl := by
            rw [List.map_map]
            exact all_map (f := fun o => V.bl (m.y (((List.range n).map c).idxOf o))) (by rw [hzl, List.length_map]) hzs
          rw [ezs] at hD11
          refine ⟨D9, _, rfl, .inl ⟨SqL.of hD11, fun t2 nt2 => ?_⟩⟩
          have s12 : Same (upd H' t1 (.tup vr)) (upd H11 t2 (.tup ((O.map fun o => m.y (((List.range n).map c).idxOf o)).map V.bl))) := st11.trans (Same.new nt2)
          refine ⟨.ref t1, .ref t2, ls, Mc.mk (O.map fun o => (m.succ (((List.range n).map c).idxOf o)).map fun t => O.idxOf (c t)) (O.map fun o => m.y (((List.range n).map c).idxOf o)), k, rfl, ?_, ⟨t2, rfl, upd_same⟩, rv, hk, ?_, fun H13 v s13 h13 => ?_⟩
          · refine ⟨t1, vr, rfl, s12 _ _ upd_same, paired_of (by rw [hl9]; exact (List.length_map _).symm) fun j y b ey eb => ?_⟩
            have eb : (O.map fun o => (m.succ (((List.range n).map c).idxOf o)).map fun t => O.idxOf (c t))[j]? = some b := eb
            rw [List.getElem?_map] at eb
            obtain ⟨o, ho, rfl⟩ := Option.map_eq_some_iff.mp eb
            exact (hv9 j y ey o ho).tst (s10.trans s12).tst
          · show (O.map _).length ≤ 1000
            rw [List.length_map]
            omega
          · rw [re] at h13
            exact q H13 v (s4.trans (s49.trans (s10.trans (s12.trans s13)))) h13
    refine ⟨_, pss_cons (ps_asg (pe_call GN hr (by rfl) gN kN bN .nil pass0 (pa_cons (pe_ix ix_tup (pv 0) (pe_int) (fun _ _ => rfl)) (pa_cons (pe_ix ix_tup (pv 0) (pe_int) (fun _ _ => rfl)) (pa_cons (pe_ix ix_tup (pv 0) (pe_int) (fun _ _ => rfl)) pa_nil)))) (pg_tup (by rfl) (pgs_cons (pg_name (i := 1) nd rfl (by first | exact Or.inl rfl | exact Or.inr rfl)) (pgs_cons (pg_name (i := 2) nd rfl (by first | exact Or.inl rfl | exact Or.inr rfl)) (pgs_cons (pg_name (i := 3) nd rfl (by first | exact Or.inl rfl | exact Or.inr rfl)) pgs_nil)))))
      (pss_cons (ps_set (i := 5) nd rfl (by first | exact Or.inl rfl | exact Or.inr rfl) (pe_lc (own := [("_law_one", 4)]) (g := gName 4) (tt := tYes) rfl nd (piT K (pv 3)) (blkOk_by (own := [("_law_one", 4)]) (N := nLLeast) (sc := (defScope sLLeast)) (by decide +kernel)) (fun _ _ _ _ _ => pg_name (i := 4) nd rfl (Or.inl rfl)) (fun _ _ _ _ _ => pts_nil) (fun _ _ _ _ _ => pe_callTy call_int1 (by rfl) mint bInt (pa_cons (pv 4) pa_nil))))
      (pss_cons (ps_set (i := 6) nd rfl (by first | exact Or.inl rfl | exact Or.inr rfl) (pe_int))
      (pss_cons (ps_while PassesOwn.never (pt_cmpR op_lt (pv 6) (pe_lenSet' rfl (by rfl) mlen (by rfl) mset (pv 5)) (nomark _))
      (pss_cons (ps_set (i := 6) nd rfl (by first | exact Or.inl rfl | exact Or.inr rfl) (pe_lenSet' rfl (by rfl) mlen (by rfl) mset (pv 5)))
      (pss_cons (ps_set (i := 7) nd rfl (by first | exact Or.inl rfl | exact Or.inr rfl) (pe_lst pa_nil))
      (pss_cons (ps_for PassesOwn.never rfl (pi_range1 (by rfl) mrng (pa_cons (pe_callB call_len_seq (by rfl) mlen PySem.boot_len (pa_cons (pv 3) pa_nil)) pa_nil)) (pg_name (i := 8) nd rfl (by first | exact Or.inl rfl | exact Or.inr rfl))
      (pss_one (ps_expr (pe_bm PySem.F.plainAttrs_list PySem.F.slot_list_append PySem.F.type_list_append mt_append (pv 7) (pa_cons (pe_op op_catT (pe_tup (pa_cons (pe_ix ix_list (pv 5) (pv 8) (fun _ _ => rfl)) pa_nil)) (pe_callTy (tupOf K) (by rfl) mtup bTuple (pa_cons (pe_lc (own := [("_law_goal", 14)]) (g := gName 14) (tt := tYes) rfl nd (pi_tup (pe_ix ix_tup (pv 2) (pv 8) (fun _ _ => rfl))) (blkOk_by (own := [("_law_goal", 14)]) (N := nLLeast) (sc := (defScope sLLeast)) (by decide +kernel)) (fun _ _ _ _ _ => pg_name (i := 14) nd rfl (Or.inl rfl)) (fun _ _ _ _ _ => pts_nil) (fun _ _ _ _ _ => pe_ix (ixL K) (pv 5) (pv 14) (fun _ _ => rfl))) pa_nil))) pa_nil)))))
      (pss_cons (ps_set (i := 9) nd rfl (by first | exact Or.inl rfl | exact Or.inr rfl) (pe_callB (cr_sortedT rfl) (by rfl) msor bSorted (pa_cons (pe_callTy (cr_setOfT rfl hu64) (by rfl) mset bSet (pa_cons (pv 7) pa_nil)) pa_nil)))
      (pss_one (ps_set (i := 5) nd rfl (by first | exact Or.inl rfl | exact Or.inr rfl) (pe_lc (own := [("_law_key", 15)]) (g := gName 15) (tt := tYes) rfl nd (piL K (pv 7)) (blkOk_by (own := [("_law_key", 15)]) (N := nLLeast) (sc := (defScope sLLeast)) (by decide +kernel)) (fun _ _ _ _ _ => pg_name (i := 15) nd rfl (Or.inl rfl)) (fun _ _ _ _ _ => pts_nil) (fun _ _ _ _ _ => bmK K PySem.F.plainAttrs_list PySem.F.slot_list_index PySem.F.type_list_index (mtIxD K hu65) (pv 9) (pa_cons (pv 15) pa_nil))))))))))
      (hpT)))), ?_⟩
    refine ⟨.ref p0, rfl, p0, _, _, _, rfl, rfl, SqT.of hp0, (atI_nat (j := 0) rfl), .ref p0, rfl, p0, _, _, _, rfl, rfl, SqT.of hp0, (atI_nat (j := 1) rfl), .ref p0, rfl, p0, _, _, _, rfl, rfl, SqT.of hp0, (atI_nat (j := 2) rfl), a0, b0, ls, m, k, rfl, ha0, hb0, hcm.toValid, hk, by omega, fun H1 v1 s1 hv1 => ?_⟩
    rw [Mc.renum_id hcm] at hv1
    obtain ⟨p1, a1, b1, rfl, hp1, ha1, pb, rfl, hb1⟩ := hv1
    obtain ⟨pa, vs, rfl, hpa, hvl, hrow⟩ := ha1.row
    refine ⟨p1, _, rfl, SqT.of hp1, rfl, _, _, rfl, _, _, rfl, _, _, rfl, rfl, ?_⟩
    have yl : m.ys.length = n := by rw [hcm.len, hn]
    -- classes = [int(one) ..]
    refine ⟨.ref pb, rfl, pb, rfl, ⟨_, SqT.of hb1⟩, fun D1 hD1 => ?_⟩
    refine lc_of_tup (xs := m.ys.map V.bl) (fun j v _ => v = iv (m.y j).toNat) (fun i v _ _ h _ => h) hD1 (fun H7 st7 => SqT.of (st7 _ _ hb1)) (by rw [List.length_map, yl]; exact small' (by omega)) (fun j v hj => ?_) (fun H2 ys st2 hD2 hyl hys => ?_)
    · intro H7 R' S' st7 hR'
      have hjl := (List.getElem?_eq_some_iff.mp hj).1
      rw [List.length_map, yl] at hjl
      rw [bl_get (ys_get hcm.toValid (by rw [hn]; exact hjl))] at hj
      cases hj
      refine ⟨rfl, ?_⟩
      refine ⟨.bl (m.y j), rfl, .inr ⟨_, rfl, hR' _ _ (Same.refl _) ?_⟩⟩
      show V.int (if m.y j = true then 1 else 0) = iv (m.y j).toNat
      generalize m.y j = b
      cases b <;> rfl
    have ec : ys = ((List.range n).map fun r => (m.y r).toNat).map iv := by
      refine List.ext_getElem (by simp [hyl, yl]) fun i h1 h2 => ?_
      rw [List.getElem_map, List.getElem_map, List.getElem_range]
      exact hys i _ (List.getElem?_eq_getElem h1)
    rw [ec] at hD2
    -- the loop
    refine while_m (fun mm σ H' => ∃ (c : Nat → Nat) (many : Nat) (cl : Addr) (y7 y8 y9 : Option V), mm = n - many ∧ σ = [some (.ref p0), some (.str ls), some (.ref pa), some (.ref pb), none, some (.ref cl), some (iv many), y7, y8, y9, none, none, none, none, none, none] ∧ Same H1 H' ∧ H' cl = some (.lst (((List.range n).map c).map iv)) ∧ WayL m c many ∧ ∀ r < n, c r ≤ n + 1)
      ⟨_, fun r => (m.y r).toNat, 0, D1, none, none, none, rfl, rfl, st2, hD2, ⟨Mc.Way.start fun r _ => rfl, .inl rfl⟩, fun r _ => by show (m.y r).toNat ≤ n + 1; have := Bool.toNat_le (m.y r); omega⟩ (fun mm σ H' hI => ?_)
    obtain ⟨c, many, cl, y7, y8, y9, rfl, rfl, s3, hcl, hw, hcb⟩ := hI
    have rl : ((List.range n).map c).length = n := by rw [List.length_map, List.length_range]
    have le1 := WayL.le hcm hw
    have le2 := card_n hcm c
    rw [hn] at le1 le2
    refine ⟨iv many, rfl, .ref cl, rfl, cl, (List.range n).map c, rfl, SqL.of hcl, by rw [rl]; omega, _, _, rfl, rfl, _, rfl, ?_⟩
    by_cases hlt : many < card ((List.range n).map c)
    · refine iteP (decide_eq_true (by omega)) ⟨_, fun σ' H' h => h, ?_⟩
      refine ⟨.ref cl, rfl, cl, (List.range n).map c, rfl, SqL.of hcl, by rw [rl]; omega, ?_⟩
      refine ⟨by show 0 ≤ sizeLine; decide, fun kl nkl => ?_⟩
      have nkH1 := none_same s3 nkl
      refine ⟨.ref pb, rfl, pb, _, rfl, .inr (SqT.of ((s3.trans (Same.new nkl)) _ _ hb1)), _, rfl, by rw [List.length_map, yl]; omega, by rw [List.length_map, yl]; omega, ?_⟩
      rw [List.length_map, yl]
      refine for_range (n := n) (fun i σ' H'' => ∃ (y8 : Option V) (ks : List (Addr × List Int)), σ' = [some (.ref p0), some (.str ls), some (.ref pa), some (.ref pb), none, some (.ref cl), some (iv (card ((List.range n).map c))), some (.ref kl), y8, y9, none, none, none, none, none, none] ∧ Same H' H'' ∧ H'' kl = some (.lst (ks.map fun p => V.ref p.1)) ∧ ks.map (·.2) = (List.range i).map (keyOf m c) ∧ ∀ p ∈ ks, H'' p.1 = some (.tup (p.2.map V.int)))
        ⟨y8, [], rfl, Same.new nkl, upd_same, rfl, fun p h => by simp at h⟩ (fun i σ' H'' hi hP => ?_) (fun σ' H'' hP => ?_)
      · obtain ⟨y8', ks, rfl, s4, hkl, hks, hkt⟩ := hP
        rw [show (0 : Int) + (i : Int) = (i : Int) from Int.zero_add _]
        have kll : ks.length = i := by
          have := congrArg List.length hks
          rw [List.length_map, List.length_map, List.length_range] at this
          exact this
        have s14 := s3.trans s4
        have hcl4 := s4 _ _ hcl
        refine ⟨.ref kl, rfl, .inl ⟨rfl, _, SqL.of hkl⟩, .ref cl, rfl, iv i, rfl, cl, _, _, _, rfl, rfl, SqL.of hcl4, atI_nat (iv_get (rangeC hi)), by show 1 ≤ sizeLine; decide, fun t1 nt1 => ?_⟩
        have s5 : Same H'' (upd H'' t1 (.tup [iv (c i)])) := Same.new nt1
        have ht1 : (upd H'' t1 (.tup [iv (c i)])) t1 = some (.tup [iv (c i)]) := upd_same
        generalize upd H'' t1 (.tup [iv (c i)]) = H5 at s5 ht1
        obtain ⟨q', hq1, hq2⟩ := hrow i _ (mv_get (m := m) (r := i) (by rw [hn]; exact hi))
        have s15 := s14.trans s5
        refine ⟨.ref pa, rfl, iv i, rfl, pa, _, _, _, rfl, rfl, SqT.of (s15 _ _ hpa), atI_nat hq1, q', rfl, ⟨_, SqT.of (s15 _ _ hq2)⟩, fun D7 hD7 => ?_⟩
        have sl : (m.succ i).length = k := Mc.succ_len hcm.toValid (by rw [hn]; exact hi)
        refine lc_of_tup (xs := (m.succ i).map iv) (fun j v _ => ∀ t, (m.succ i)[j]? = some t → v = iv (c t)) (fun i v _ _ h _ => h) hD7 (fun H7 st7 => SqT.of (st7 _ _ (s15 _ _ hq2))) (by rw [List.length_map, sl]; exact small' (by omega)) (fun j v hj => ?_) (fun H7 ys st7 hD7l hyl7 hys7 => ?_)
        · intro H7 R' S' st7 hR'
          rw [List.getElem?_map] at hj
          obtain ⟨t, ht, rfl⟩ := Option.map_eq_some_iff.mp hj
          have tl : t < n := by
            have := Mc.succ_lt hcm.toValid (List.mem_of_getElem? ht)
            rw [hn] at this
            exact this
          refine ⟨rfl, ?_⟩
          refine ⟨.ref cl, rfl, iv t, rfl, cl, _, _, _, rfl, rfl, SqL.of (st7 _ _ (s5 _ _ hcl4)), atI_nat (iv_get (rangeC tl)), hR' _ _ (Same.refl _) fun t' e => ?_⟩
          rw [ht] at e
          cases e
          rfl
        · have eys : ys = ((m.succ i).map c).map iv := by
            rw [List.map_map]
            exact all_map (f := fun t => iv (c t)) (by rw [hyl7, List.length_map]) hys7
          rw [eys] at hD7l
          refine ⟨D7, _, rfl, .inl ⟨SqL.of hD7l, fun t2 nt2 => ?_⟩⟩
          have s6 : Same H5 (upd H7 t2 (.tup (((m.succ i).map c).map iv))) := st7.trans (Same.new nt2)
          refine ⟨t1, t2, _, _, rfl, rfl, SqT.of (s6 _ _ ht1), SqT.of upd_same, by simp, by rw [List.length_map, List.length_map, sl]; exact small' (by show 1 + k ≤ 100000; omega), fun e => ?_, fun _ t3 nt3 => ?_⟩
          · have := congrArg List.length e
            rw [List.length_map, List.length_map, sl] at this
            simp at this
            omega
          · have ekey : ([iv (c i)] ++ ((m.succ i).map c).map iv) = (keyOf m c i).map V.int := by
              show (c i :: (m.succ i).map c).map iv = _
              unfold keyOf
              rw [List.map_map (g := V.int)]
              rfl
            rw [ekey]
            have s7 : Same H'' (upd (upd H7 t2 (.tup (((m.succ i).map c).map iv))) t3 (.tup ((keyOf m c i).map V.int))) := s5.trans (s6.trans (Same.new nt3))
            have ht3 : (upd (upd H7 t2 (.tup (((m.succ i).map c).map iv))) t3 (.tup ((keyOf m c i).map V.int))) t3 = some (.tup ((keyOf m c i).map V.int)) := upd_same
            generalize upd (upd H7 t2 (.tup (((m.succ i).map c).map iv))) t3 (.tup ((keyOf m c i).map V.int)) = H9 at s7 ht3
            have hkl9 := s7 _ _ hkl
            have ts := ts_lst (u := .lst (ks.map (fun p => V.ref p.1) ++ [.ref t3])) hkl9
            refine ⟨kl, _, _, rfl, rfl, hkl9, by rw [List.length_map]; exact small (by omega), ?_⟩
            refine ⟨_, ks ++ [(t3, keyOf m c i)], rfl, (s4.trans s7).upd nkl, by rw [upd_same, List.map_append]; rfl, by rw [List.map_append, hks, List.range_succ, List.map_append]; rfl, fun p hp => ?_⟩
            rcases List.mem_append.mp hp with z | z
            · exact ts _ _ (s7 _ _ (hkt p z))
            · obtain rfl : p = (t3, keyOf m c i) := by simpa using z
              exact ts _ _ ht3
      · obtain ⟨y8', ks, rfl, s4, hkl, hks, hkt⟩ := hP
        have kll : ks.length = n := by
          have := congrArg List.length hks
          rw [List.length_map, List.length_map, List.length_range] at this
          exact this
        -- some = sorted(set(keys))
        refine ⟨.ref kl, rfl, kl, ks, rfl, SqL.of hkl, fun p hp => SqT.of (hkt p hp), by omega, fun sa L nsa hL1 hL2 => ?_⟩
        have s5 : Same H'' (upd H'' sa (SetTO P w sa L)) := Same.new nsa
        have kin : ∀ p ∈ ks, ∃ r < n, p.2 = keyOf m c r := fun p hp => by
          have : p.2 ∈ (List.range n).map (keyOf m c) := by rw [← hks]; exact List.mem_map_of_mem hp
          obtain ⟨r, hr, e⟩ := List.mem_map.mp this
          exact ⟨r, List.mem_range.mp hr, e.symm⟩
        refine ⟨sa, L, k + 1, (n : Int) + 2, rfl, upd_same, fun p hp => SqT.of (s5 _ _ (hkt p (hL1 p hp))), by omega, fun p hp => ?_, fun L' sp perm nd' few _ nsp => ?_⟩
        · obtain ⟨r, hr', e⟩ := kin p (hL1 p hp)
          rw [e]
          refine ⟨?_, fun x hx => ?_⟩
          · unfold keyOf
            rw [List.length_map, List.length_cons, List.length_map, Mc.succ_len hcm.toValid (by rw [hn]; exact hr')]
          · unfold keyOf at hx
            obtain ⟨y, hy, rfl⟩ := List.mem_map.mp hx
            have : y ≤ n + 1 := by
              rcases List.mem_cons.mp hy with z | z
              · rw [z]; exact hcb r hr'
              · obtain ⟨t, ht, rfl⟩ := List.mem_map.mp z
                have := Mc.succ_lt hcm.toValid ht
                rw [hn] at this
                exact hcb t this
            omega
        have hL' : ∀ p ∈ L', p ∈ ks := fun p hp => hL1 p (perm.mem_iff.mp hp)
        have k1 : ∀ r < m.mv.length, keyOf m c r ∈ L'.map (·.2) := fun r hr' => by
          rw [hn] at hr'
          have h1 : keyOf m c r ∈ ks.map (·.2) := by rw [hks]; exact List.mem_map_of_mem (List.mem_range.mpr hr')
          obtain ⟨p, hp, e⟩ := List.mem_map.mp h1
          have h2 := hL2 p hp
          rw [e] at h2
          obtain ⟨p', hp', e'⟩ := List.mem_map.mp h2
          rw [← e']
          exact List.mem_map_of_mem (perm.mem_iff.mpr hp')
        have k2 : ∀ x ∈ L'.map (·.2), ∃ r < m.mv.length, x = keyOf m c r := fun x hx => by
          obtain ⟨p, hp, rfl⟩ := List.mem_map.mp hx
          obtain ⟨r, hr', e⟩ := kin p (hL' p hp)
          exact ⟨r, by rw [hn]; exact hr', e⟩
        have hw' := WayL.turn hcm hw nd' k1 k2
        have hcn := card_n hcm fun r => (L'.map (·.2)).idxOf (keyOf m c r)
        rw [hn] at hw' hcn
        have s6 : Same H'' (upd (upd H'' sa (SetTO P w sa L)) sp (.lst (L'.map fun q => V.ref q.1))) := s5.trans (Same.new nsp)
        have hsp : (upd (upd H'' sa (SetTO P w sa L)) sp (.lst (L'.map fun q => V.ref q.1))) sp = some (.lst (L'.map fun q => V.ref q.1)) := upd_same
        have hkl6 := s6 _ _ hkl
        -- classes = [some.index(key) ..]
        refine ⟨.ref kl, rfl, kl, rfl, ⟨_, SqL.of hkl6⟩, fun D8 hD8 => ?_⟩
        refine lc_of_list (xs := ks.map fun p : Addr × List Int => V.ref p.1) (fun j v _ => v = iv ((L'.map (·.2)).idxOf (keyOf m c j))) (fun i v _ _ h _ => h) hD8 (fun H7 st7 => SqL.of (st7 _ _ hkl6)) (by rw [List.length_map, kll]; exact small' (by omega)) (fun j v hj => ?_) (fun H8 ys st8 hD8l hyl8 hys8 => ?_)
        · intro H7 R S st7 hR
          rw [List.getElem?_map] at hj
          obtain ⟨p, hp, rfl⟩ := Option.map_eq_some_iff.mp hj
          have hjn : j < n := by
            have := (List.getElem?_eq_some_iff.mp hp).1
            omega
          have ep : p.2 = keyOf m c j := by
            have h1 : (ks.map (·.2))[j]? = some p.2 := by rw [List.getElem?_map, hp]; rfl
            rw [hks, rangeK hjn] at h1
            exact (Option.some.inj h1).symm
          have s67 := s6.trans st7
          have hsp7 := st7 _ _ hsp
          refine ⟨rfl, ?_⟩
          refine ⟨.ref sp, rfl, .inl ⟨rfl, _, SqL.of hsp7⟩, .ref p.1, rfl, ixD_of hsp7 (fun p hp => s67 _ _ (hkt p (hL' p hp))) (by rw [← ep]; exact s67 _ _ (hkt p (List.mem_of_getElem? hp))) (k1 j (by rw [hn]; exact hjn)) (hR _ _ (Same.refl _) rfl)⟩
        · have ec2 : ys = ((List.range n).map fun r => (L'.map (·.2)).idxOf (keyOf m c r)).map iv := by
            refine List.ext_getElem (by simp [hyl8, kll]) fun i h1 h2 => ?_
            rw [List.getElem_map, List.getElem_map, List.getElem_range]
            exact hys8 i _ (List.getElem?_eq_getElem h1)
          rw [ec2] at hD8l
          refine ⟨n - card ((List.range n).map c), by omega, fun r => (L'.map (·.2)).idxOf (keyOf m c r), card ((List.range n).map c), D8, _, _, _, rfl, rfl, s3.trans (s4.trans (s6.trans st8)), hD8l, hw', fun r hr' => ?_⟩
          have h1 := List.idxOf_lt_length_of_mem (k1 r (by rw [hn]; exact hr'))
          have h2 : (L'.map (·.2)).length ≤ n := by
            have h3 := nodup_sub_length nd' (m := (List.range n).map (keyOf m c)) fun x hx => by
              obtain ⟨r', hr2, e⟩ := k2 x hx
              rw [hn] at hr2
              rw [e]
              exact List.mem_map_of_mem (List.mem_range.mpr hr2)
            rw [List.length_map (f := keyOf m c), List.length_range] at h3
            exact h3
          show (L'.map (·.2)).idxOf (keyOf m c r) ≤ n + 1
          omega
    · refine iteN (decide_eq_false (by omega)) ?_
      obtain ⟨e1, e2, e3⟩ := WayL.done hcm hw (by rw [hn]; omega)
      rw [hn] at e1 e2 e3
      subst e1
      exact hrT c H' pa pb cl vs y7 y8 y9 (s1.trans s3) (s3 _ _ hpa) (fun i row hi => let ⟨q', h1, h2⟩ := hrow i row hi; ⟨q', h1, s3 _ _ h2⟩) (s3 _ _ hb1) hcl e2 e3
end
end Cw
set_option Elab.async false
set_option linter.all false
set_option maxRecDepth 100000
set_option maxHeartbeats 8000000
/-! _law_first, _law_onward, _law_has_yes -/
namespace Cw
open PySem PySem.Spec PyProof.Rows L2 Kw
section
variable {P : Program} {w : World} {K : PySem.W.Frag} {mg : Str → Option Value} {base : Heap}
theorem q_eq {Q : V → Hp → Prop} {x y : V} {H : Hp} (e : x = y) (h : Q y H) : Q x H := e ▸ h
def LRow (ls : Str) (H : Hp) (r : V) (l : Addr) (row : Kw.Row) (made : List Mc) : Prop := ∃ vm, RowAt ls.cps.toList H r row ∧ H l = some (.lst vm) ∧ MadeAt H vm ls made ∧ row.fits ls.length made.length ∧ Kw.Parts ls.length 60 made ∧ ls.length ≤ 100 ∧ ls.cps.toList.Nodup
def spLFirst : Sp := fun vs H Q _ => ∃ (ls : Str) (r : V) (l : Addr) (row : Kw.Row) (made : List Mc), vs = [r, .ref l] ∧ LRow ls H r l row made ∧ ∀ H' u, Same H H' → RmAt H' u (firstR made row) → Q u H'
def spLOnward : Sp := fun vs H Q _ => ∃ (ls : Str) (r : V) (l : Addr) (row : Kw.Row) (made : List Mc) (v : V) (rm : Rm) (a : Nat), vs = [.str ls, r, .ref l, v, iv a] ∧ LRow ls H r l row made ∧ RmAt H v rm ∧ okR ls.length made row rm ∧ a < ls.length ∧ ∀ H' u, Same H H' → RmAt H' u (onwR made row rm a) → Q u H'
def spLYes : Sp := fun vs H Q _ => ∃ (ls : Str) (r : V) (l : Addr) (row : Kw.Row) (made : List Mc) (v : V) (rm : Rm), vs = [r, .ref l, v] ∧ LRow ls H r l row made ∧ RmAt H v rm ∧ okR ls.length made row rm ∧ ∀ H', Same H H' → Q (.bl (yesR made row rm)) H'
theorem ok_lfirst {f : Addr} {fd : FuncData} (F : Fun K "_law_first" "_law_first" sLFirst f fd) (mint : mg "int" = none) : FnOk P w K mg base CX0 1 f fd ["_law_row", "_law_made_here"] spLFirst := by
  refine F.ok scLFirst (fun vs H Q E h => ?_) (fun cdv A outer s H vs Q E hr h => ?_)
  · obtain ⟨ls, r, l, row, made, rfl, _⟩ := h
    rfl
  · obtain ⟨ls, r, l, row, made, rfl, ⟨vm, ⟨p, rfl, hp⟩, hl, hmd, hf, hpt, hk, hnd⟩, q⟩ := h
    have nd := scLFirst.nd
    refine ⟨_, pss_cons (ps_if (PW.pt (pw_or (pt_cmpR op_eq (pe_ix ix_tup (pv 0) (pe_int) (fun _ _ => rfl)) (pe_str) (nomark _)) (pw_or1 (pt_cmpR op_eq (pe_ix ix_tup (pv 0) (pe_int) (fun _ _ => rfl)) (pe_str) (nomark _))))) (pss_one (ps_ret (pe_tup (pa_cons (pe_int) (pa_cons (pe_int) pa_nil))))) (pss_nil))
      (pss_cons (ps_if (pt_cmpR op_eq (pe_ix ix_tup (pv 0) (pe_int) (fun _ _ => rfl)) (pe_str) (nomark _)) (pss_one (ps_ret (pe_tup (pa_cons (pe_int) (pa_cons (pe_slice sl_tupA (pe_tup (pa_cons (pe_int) pa_nil)) po_none (po_some (pe_callTy call_int1 (by rfl) mint bInt (pa_cons (pe_ix ix_tup (pe_ix ix_tup (pe_ix ix_list (pv 1) (pe_ix ix_tup (pv 0) (pe_int) (fun _ _ => rfl)) (fun _ _ => rfl)) (pe_int) (fun _ _ => rfl)) (pe_int) (fun _ _ => rfl)) pa_nil)))) pa_nil))))) (pss_nil))
      (pss_one (ps_ret (pe_int)))), ?_⟩
    have two : (row = .or 0 0 ∨ True) → RmAt H (V.int 0) (.one 0) := fun _ => rfl
    cases row with
    | or i j =>
      refine ⟨.ref p, rfl, p, _, _, _, rfl, rfl, SqT.of hp, (atI_nat (j := 0) rfl), rfl, _, rfl, iteP (decide_eq_true rfl) (iteP rfl ?_)⟩
      exact ⟨by show 2 ≤ sizeLine; decide, fun u n => q _ _ (Same.new n) ⟨u, rfl, upd_same⟩⟩
    | and i j =>
      refine ⟨.ref p, rfl, p, _, _, _, rfl, rfl, SqT.of hp, (atI_nat (j := 0) rfl), rfl, _, rfl, iteN (decide_eq_false (str_ne (by decide))) ?_⟩
      refine ⟨.ref p, rfl, p, _, _, _, rfl, rfl, SqT.of hp, (atI_nat (j := 0) rfl), rfl, _, rfl, iteP (decide_eq_true rfl) ?_⟩
      exact ⟨by show 2 ≤ sizeLine; decide, fun u n => q _ _ (Same.new n) ⟨u, rfl, upd_same⟩⟩
    | behind i j =>
      refine ⟨.ref p, rfl, p, _, _, _, rfl, rfl, SqT.of hp, (atI_nat (j := 0) rfl), rfl, _, rfl, iteN (decide_eq_false (str_ne (by decide))) ?_⟩
      refine ⟨.ref p, rfl, p, _, _, _, rfl, rfl, SqT.of hp, (atI_nat (j := 0) rfl), rfl, _, rfl, iteN (decide_eq_false (str_ne (by decide))) ?_⟩
      refine ⟨.ref p, rfl, p, _, _, _, rfl, rfl, SqT.of hp, (atI_nat (j := 0) rfl), rfl, _, rfl, iteP (decide_eq_true rfl) ?_⟩
      obtain ⟨v, ev, c0, x, y, rfl, hc0, hx, py, rfl, hy⟩ := hmd.at_ hf.1
      have cm := (hpt.at hf.1).1
      refine ⟨by show 1 ≤ sizeLine; decide, fun t nt => ?_⟩
      have s1 : Same H (upd H t (.tup [iv 0])) := Same.new nt
      have ht : (upd H t (.tup [iv 0])) t = some (.tup [iv 0]) := upd_same
      have hp := s1 _ _ hp
      have hl := s1 _ _ hl
      have hc0 := s1 _ _ hc0
      have hy := s1 _ _ hy
      refine ⟨.ref l, rfl, .ref p, rfl, p, _, _, _, rfl, rfl, SqT.of hp, (atI_nat (j := 1) rfl), l, _, _, _, rfl, rfl, SqL.of hl, atI_nat ev, c0, _, _, _, rfl, rfl, SqT.of hc0, (atI_nat (j := 2) rfl), py, _, _, _, rfl, rfl, SqT.of hy, atI_nat (bl_get (ys_get cm.toValid cm.pos)), .inr ⟨_, rfl, _, rfl, t, _, rfl, SqT.of ht, fun whole => ?_, fun part np => ?_⟩⟩
      · cases e : (Kw.part made i).y 0 with
        | true =>
          refine ⟨by show 2 ≤ sizeLine; decide, fun u n => q _ _ (s1.trans (Same.new n)) ⟨u, t, rfl, upd_same, ?_⟩⟩
          show _ = some (HO.tup ((if (Kw.part made i).y 0 = true then [0] else []).map iv))
          rw [e]
          exact (Same.new n) _ _ ht
        | false =>
          rw [e] at whole
          exact absurd whole.2 (by decide)
      · cases e : (Kw.part made i).y 0 with
        | true =>
          rw [e] at part
          exact absurd ⟨rfl, rfl⟩ part
        | false =>
          intro np
          refine ⟨by show 2 ≤ sizeLine; decide, fun u n => q _ _ (s1.trans ((Same.new np).trans (Same.new n))) ⟨u, _, rfl, upd_same, ?_⟩⟩
          show _ = some (HO.tup ((if (Kw.part made i).y 0 = true then [0] else []).map iv))
          rw [e]
          exact (Same.new n) _ _ upd_same
    | _ =>
      refine ⟨.ref p, rfl, p, _, _, _, rfl, rfl, SqT.of hp, (atI_nat (j := 0) rfl), rfl, _, rfl, iteN (decide_eq_false (str_ne (by decide))) ?_⟩
      refine ⟨.ref p, rfl, p, _, _, _, rfl, rfl, SqT.of hp, (atI_nat (j := 0) rfl), rfl, _, rfl, iteN (decide_eq_false (str_ne (by decide))) ?_⟩
      refine ⟨.ref p, rfl, p, _, _, _, rfl, rfl, SqT.of hp, (atI_nat (j := 0) rfl), rfl, _, rfl, iteN (decide_eq_false (str_ne (by decide))) ?_⟩
      exact q _ _ (Same.refl _) rfl
theorem ok_lonward {f : Addr} {fd : FuncData} (F : Fun K "_law_onward" "_law_onward" sLOnward f fd) (mint : mg "int" = none) (mtup : mg "tuple" = none) (msor : mg "sorted" = none) (mset : mg "set" = none) : FnOk P w K mg base CX0 1 f fd ["_law_letters_here", "_law_row", "_law_made_here", "_law_room", "_law_k"] spLOnward := by
  refine F.ok scLOnward (fun vs H Q E h => ?_) (fun cdv A outer s H vs Q E hr h => ?_)
  · obtain ⟨ls, r, l, row, made, v, rm, a, rfl, _⟩ := h
    rfl
  · obtain ⟨ls, r, l, row, made, v, rm, a, rfl, ⟨vm, ⟨p, rfl, hp⟩, hl, hmd, hf, hpt, hk, hnd⟩, hrm, hok, ha, q⟩ := h
    have nd := scLOnward.nd
    have kl : ls.cps.toList.length = ls.length := Array.length_toList
    refine ⟨_, pss_cons (ps_if (pt_cmpR op_eq (pe_ix ix_tup (pv 1) (pe_int) (fun _ _ => rfl)) (pe_str) (nomark _)) (pss_one (ps_ret (pe_int))) (pss_nil))
      (pss_cons (ps_if (pt_cmpR op_eq (pe_ix ix_tup (pv 1) (pe_int) (fun _ _ => rfl)) (pe_str) (nomark _)) (pss_one (ps_ret (pe_int))) (pss_nil))
      (pss_cons (ps_if (pt_cmpR op_eq (pe_ix ix_tup (pv 1) (pe_int) (fun _ _ => rfl)) (pe_str) (nomark _)) (pss_one (ps_ret (pe_ix ix_list (pe_lst (pa_cons (pe_op op_sub (pe_int) (pe_callTy call_int1 (by rfl) mint bInt (pa_cons (pe_cmpR op_eq (pe_ix ix_str (pv 0) (pv 4) (fun _ _ => rfl)) (pe_ix ix_tup (pv 1) (pe_int) (fun _ _ => rfl)) (nomark _)) pa_nil))) (pa_cons (pe_int) (pa_cons (pe_int) pa_nil)))) (pv 3) (fun _ _ => rfl)))) (pss_nil))
      (pss_cons (ps_set (i := 5) nd rfl (by first | exact Or.inl rfl | exact Or.inr rfl) (pe_ix ix_tup (pe_ix ix_list (pv 2) (pe_ix ix_tup (pv 1) (pe_int) (fun _ _ => rfl)) (fun _ _ => rfl)) (pe_int) (fun _ _ => rfl)))
      (pss_cons (ps_if (pt_cmpR op_eq (pe_ix ix_tup (pv 1) (pe_int) (fun _ _ => rfl)) (pe_str) (nomark _)) (pss_one (ps_ret (pe_ix ix_tup (pe_ix ix_tup (pv 5) (pv 3) (fun _ _ => rfl)) (pv 4) (fun _ _ => rfl)))) (pss_nil))
      (pss_cons (ps_set (i := 6) nd rfl (by first | exact Or.inl rfl | exact Or.inr rfl) (pe_ix ix_tup (pe_ix ix_list (pv 2) (pe_ix ix_tup (pv 1) (pe_int) (fun _ _ => rfl)) (fun _ _ => rfl)) (pe_int) (fun _ _ => rfl)))
      (pss_cons (ps_if (pt_cmpR op_ne (pe_ix ix_tup (pv 1) (pe_int) (fun _ _ => rfl)) (pe_str) (nomark _)) (pss_one (ps_ret (pe_tup (pa_cons (pe_ix ix_tup (pe_ix ix_tup (pv 5) (pe_ix ix_tup (pv 3) (pe_int) (fun _ _ => rfl)) (fun _ _ => rfl)) (pv 4) (fun _ _ => rfl)) (pa_cons (pe_ix ix_tup (pe_ix ix_tup (pv 6) (pe_ix ix_tup (pv 3) (pe_int) (fun _ _ => rfl)) (fun _ _ => rfl)) (pv 4) (fun _ _ => rfl)) pa_nil))))) (pss_nil))
      (pss_cons (ps_set (i := 7) nd rfl (by first | exact Or.inl rfl | exact Or.inr rfl) (pe_ix ix_tup (pe_ix ix_tup (pv 5) (pe_ix ix_tup (pv 3) (pe_int) (fun _ _ => rfl)) (fun _ _ => rfl)) (pv 4) (fun _ _ => rfl)))
      (pss_cons (ps_set (i := 8) nd rfl (by first | exact Or.inl rfl | exact Or.inr rfl) (pe_op op_cat (pe_lc (own := [("_law_spot", 9)]) (g := gName 9) (tt := tYes) rfl nd (piT K (pe_ix (ixT K) (pv 3) (pe_int) (fun _ _ => rfl))) (blkOk_by (own := [("_law_spot", 9)]) (N := nLOnward) (sc := (defScope sLOnward)) (by decide +kernel)) (fun _ _ _ _ _ => pg_name (i := 9) nd rfl (Or.inl rfl)) (fun _ _ _ _ _ => pts_nil) (fun _ _ _ _ _ => pe_ix (ixT K) (pe_ix (ixT K) (pv 6) (pv 9) (fun _ _ => rfl)) (pv 4) (fun _ _ => rfl))) (pe_op op_rep (pe_lst (pa_cons (pe_int) pa_nil)) (pe_callTy call_int1 (by rfl) mint bInt (pa_cons (pe_ix ix_tup (pe_ix ix_tup (pe_ix ix_list (pv 2) (pe_ix ix_tup (pv 1) (pe_int) (fun _ _ => rfl)) (fun _ _ => rfl)) (pe_int) (fun _ _ => rfl)) (pv 7) (fun _ _ => rfl)) pa_nil)))))
      (pss_one (ps_ret (pe_tup (pa_cons (pv 7) (pa_cons (pe_callTy call_tuple_of (by rfl) mtup bTuple (pa_cons (pe_callB (cr_sortedSet rfl) (by rfl) msor bSorted (pa_cons (pe_callTy (cr_setL rfl) (by rfl) mset bSet (pa_cons (pv 8) pa_nil)) pa_nil)) pa_nil)) pa_nil))))))))))))), ?_⟩
    cases row with
    | nothing =>
      refine ⟨.ref p, rfl, p, _, _, _, rfl, rfl, SqT.of (hp), (atI_nat (j := 0) rfl), rfl, _, rfl, iteP (decide_eq_true rfl) ?_⟩
      cases rm <;> first | exact hok.elim | exact q _ _ (Same.refl _) rfl
    | blank =>
      refine ⟨.ref p, rfl, p, _, _, _, rfl, rfl, SqT.of (hp), (atI_nat (j := 0) rfl), rfl, _, rfl, iteN (decide_eq_false (str_ne (by decide))) ?_⟩
      refine ⟨.ref p, rfl, p, _, _, _, rfl, rfl, SqT.of (hp), (atI_nat (j := 0) rfl), rfl, _, rfl, iteP (decide_eq_true rfl) ?_⟩
      cases rm <;> first | exact hok.elim | exact q _ _ (Same.refl _) rfl
    | letter b =>
      refine ⟨.ref p, rfl, p, _, _, _, rfl, rfl, SqT.of (hp), (atI_nat (j := 0) rfl), rfl, _, rfl, iteN (decide_eq_false (str_ne (by decide))) ?_⟩
      refine ⟨.ref p, rfl, p, _, _, _, rfl, rfl, SqT.of (hp), (atI_nat (j := 0) rfl), rfl, _, rfl, iteN (decide_eq_false (str_ne (by decide))) ?_⟩
      refine ⟨.ref p, rfl, p, _, _, _, rfl, rfl, SqT.of (hp), (atI_nat (j := 0) rfl), rfl, _, rfl, iteP (decide_eq_true rfl) ?_⟩
      have hb : b < ls.cps.toList.length := by rw [kl]; exact hf
      have ha' : a < ls.cps.toList.length := by rw [kl]; exact ha
      cases rm with
      | two => exact hok.elim
      | some => exact hok.elim
      | one rr =>
        obtain rfl : v = iv rr := hrm
        have ec : ls.cps.toList.getD b 0 = ls.cps.toList[b] := by rw [List.getD_eq_getElem?_getD, List.getElem?_eq_getElem hb]; rfl
        have ev : V.int (if decide (V.str ⟨#[ls.cps.toList[a]]⟩ = V.str ⟨#[ls.cps.toList.getD b 0]⟩) = true then 1 else 0) = V.int (if a = b then 1 else 0) := by
          rw [ec]
          by_cases e : a = b
          · subst e
            rw [if_pos rfl, decide_eq_true rfl]
            rfl
          · rw [if_neg e, decide_eq_false (fun z => e ?_)]
            · rfl
            · have z1 : ls.cps.toList[a] = ls.cps.toList[b] := by
                have := congrArg (fun s : Str => s.cps) (V.str.inj z)
                simpa using this
              have h1 := hnd.idxOf_getElem a ha'
              have h2 := hnd.idxOf_getElem b hb
              rw [z1] at h1
              omega
        refine ⟨.str ls, rfl, iv a, rfl, ls, _, _, rfl, rfl, small' (by omega), atI_nat (List.getElem?_eq_getElem ha'), .ref p, rfl, p, _, _, _, rfl, rfl, SqT.of hp, (atI_nat (j := 1) rfl), rfl, .inr ⟨_, rfl, 2, (if a = b then 1 else 0), rfl, ev, ?_⟩⟩
        refine ⟨by show 3 ≤ sizeLine; decide, fun t nt => ?_⟩
        have hr3 : rr < 3 := hok
        have hr3 : rr = 0 ∨ rr = 1 ∨ rr = 2 := by omega
        rcases hr3 with rfl | rfl | rfl
        · refine ⟨_, rfl, t, _, _, _, rfl, rfl, SqL.of upd_same, (atI_nat (j := 0) rfl), q _ _ (Same.new nt) ?_⟩
          show RmAt _ (V.int (2 - if a = b then 1 else 0)) (if a = b then .one 1 else .one 2)
          by_cases e : a = b
          · rw [if_pos e, if_pos e]
            rfl
          · rw [if_neg e, if_neg e]
            rfl
        · exact ⟨_, rfl, t, _, _, _, rfl, rfl, SqL.of upd_same, (atI_nat (j := 1) rfl), q _ _ (Same.new nt) rfl⟩
        · exact ⟨_, rfl, t, _, _, _, rfl, rfl, SqL.of upd_same, (atI_nat (j := 2) rfl), q _ _ (Same.new nt) rfl⟩
    | no i =>
      refine ⟨.ref p, rfl, p, _, _, _, rfl, rfl, SqT.of (hp), (atI_nat (j := 0) rfl), rfl, _, rfl, iteN (decide_eq_false (str_ne (by decide))) ?_⟩
      refine ⟨.ref p, rfl, p, _, _, _, rfl, rfl, SqT.of (hp), (atI_nat (j := 0) rfl), rfl, _, rfl, iteN (decide_eq_false (str_ne (by decide))) ?_⟩
      refine ⟨.ref p, rfl, p, _, _, _, rfl, rfl, SqT.of (hp), (atI_nat (j := 0) rfl), rfl, _, rfl, iteN (decide_eq_false (str_ne (by decide))) ?_⟩
      obtain ⟨v1, ev, c0, x, y, rfl, hc0, hx, _⟩ := hmd.at_ hf
      have cm := (hpt.at hf).1.toValid
      obtain ⟨px, vs, rfl, hpx, hvl, hrow⟩ := hx.row
      refine ⟨.ref l, rfl, .ref p, rfl, p, _, _, _, rfl, rfl, SqT.of hp, (atI_nat (j := 1) rfl), l, _, _, _, rfl, rfl, SqL.of hl, atI_nat ev, c0, _, _, _, rfl, rfl, SqT.of hc0, (atI_nat (j := 1) rfl), ?_⟩
      refine ⟨.ref p, rfl, p, _, _, _, rfl, rfl, SqT.of (hp), (atI_nat (j := 0) rfl), rfl, _, rfl, iteP (decide_eq_true rfl) ?_⟩
      cases rm with
      | two => exact hok.elim
      | some => exact hok.elim
      | one rr =>
        obtain rfl : v = iv rr := hrm
        obtain ⟨q1, e1, h1⟩ := hrow rr _ (mv_get hok)
        exact ⟨.ref px, rfl, iv rr, rfl, px, _, _, _, rfl, rfl, SqT.of hpx, atI_nat e1, iv a, rfl, q1, _, _, _, rfl, rfl, SqT.of h1, atI_nat (iv_get (to_get cm hok ha)), q _ _ (Same.refl _) rfl⟩
    | behind i j =>
      refine ⟨.ref p, rfl, p, _, _, _, rfl, rfl, SqT.of (hp), (atI_nat (j := 0) rfl), rfl, _, rfl, iteN (decide_eq_false (str_ne (by decide))) ?_⟩
      refine ⟨.ref p, rfl, p, _, _, _, rfl, rfl, SqT.of (hp), (atI_nat (j := 0) rfl), rfl, _, rfl, iteN (decide_eq_false (str_ne (by decide))) ?_⟩
      refine ⟨.ref p, rfl, p, _, _, _, rfl, rfl, SqT.of (hp), (atI_nat (j := 0) rfl), rfl, _, rfl, iteN (decide_eq_false (str_ne (by decide))) ?_⟩
      obtain ⟨v1, ev, c0, x, y, rfl, hc0, hx, py, rfl, hy⟩ := hmd.at_ hf.1
      obtain ⟨v2, ev2, c2, x2, y2, rfl, hc2, hx2, _⟩ := hmd.at_ hf.2
      have cm := (hpt.at hf.1).1.toValid
      have cn := (hpt.at hf.2).1.toValid
      have jl := (hpt.at hf.2).2
      obtain ⟨px, vs, rfl, hpx, hvl, hrow⟩ := hx.row
      obtain ⟨px2, vs2, rfl, hpx2, hvl2, hrow2⟩ := hx2.row
      refine ⟨.ref l, rfl, .ref p, rfl, p, _, _, _, rfl, rfl, SqT.of hp, (atI_nat (j := 1) rfl), l, _, _, _, rfl, rfl, SqL.of hl, atI_nat ev, c0, _, _, _, rfl, rfl, SqT.of hc0, (atI_nat (j := 1) rfl), ?_⟩
      refine ⟨.ref p, rfl, p, _, _, _, rfl, rfl, SqT.of (hp), (atI_nat (j := 0) rfl), rfl, _, rfl, iteN (decide_eq_false (str_ne (by decide))) ?_⟩
      refine ⟨.ref l, rfl, .ref p, rfl, p, _, _, _, rfl, rfl, SqT.of hp, (atI_nat (j := 2) rfl), l, _, _, _, rfl, rfl, SqL.of hl, atI_nat ev2, c2, _, _, _, rfl, rfl, SqT.of hc2, (atI_nat (j := 1) rfl), ?_⟩
      refine ⟨.ref p, rfl, p, _, _, _, rfl, rfl, SqT.of hp, (atI_nat (j := 0) rfl), rfl, _, rfl, iteN (by rw [decide_eq_true rfl]; rfl) ?_⟩
      cases rm with
      | one => exact hok.elim
      | two => exact hok.elim
      | some rr js =>
        obtain ⟨pv, pj, rfl, hpv, hpj⟩ := hrm
        obtain ⟨ok1, ok2, ok3⟩ := hok
        obtain ⟨q1, e1, h1⟩ := hrow rr _ (mv_get ok1)
        have jsl : js.length ≤ 60 := by
          have : js.length ≤ (Kw.part made j).mv.length := nodup_lt_length (ok2.imp fun h => Nat.ne_of_lt h) ok3
          omega
        refine ⟨.ref px, rfl, .ref pv, rfl, pv, _, _, _, rfl, rfl, SqT.of hpv, (atI_nat (j := 0) rfl), px, _, _, _, rfl, rfl, SqT.of hpx, atI_nat e1, iv a, rfl, q1, _, _, _, rfl, rfl, SqT.of h1, atI_nat (iv_get (to_get cm ok1 ha)), ?_⟩
        refine ⟨.ref pv, rfl, pv, _, _, _, rfl, rfl, SqT.of hpv, (atI_nat (j := 1) rfl), pj, rfl, ⟨_, SqT.of hpj⟩, fun D hD => ?_⟩
        refine lc_of_tup (xs := js.map iv) (fun j' v _ => ∀ t, js[j']? = some t → v = iv ((Kw.part made j).to t a)) (fun i v _ _ h _ => h) hD (fun H7 st7 => SqT.of (st7 _ _ hpj)) (by rw [List.length_map]; exact small' (by omega)) (fun j' v hj => ?_) (fun H7 ys st7 hD7l hyl7 hys7 => ?_)
        · intro H7 R' S' st7 hR'
          rw [List.getElem?_map] at hj
          obtain ⟨t, ht, rfl⟩ := Option.map_eq_some_iff.mp hj
          have tl := ok3 t (List.mem_of_getElem? ht)
          obtain ⟨q2, e2, h2⟩ := hrow2 t _ (mv_get tl)
          refine ⟨rfl, ?_⟩
          refine ⟨.ref px2, rfl, iv t, rfl, px2, _, _, _, rfl, rfl, SqT.of (st7 _ _ hpx2), atI_nat e2, iv a, rfl, q2, _, _, _, rfl, rfl, SqT.of (st7 _ _ h2), atI_nat (iv_get (to_get cn tl ha)), hR' _ _ (Same.refl _) fun t' e => ?_⟩
          rw [ht] at e
          cases e
          rfl
        · have eys : ys = (js.map fun t => (Kw.part made j).to t a).map iv := by
            rw [List.map_map]
            exact all_map (f := fun t => iv ((Kw.part made j).to t a)) (by rw [hyl7, List.length_map]) hys7
          rw [eys] at hD7l
          generalize hns : (js.map fun t => (Kw.part made j).to t a) = ns at hD7l
          have nsl : ns.length ≤ 60 := by rw [← hns, List.length_map]; exact jsl
          have hto := Mc.to_lt cm rr a
          generalize hb : (Kw.part made i).y ((Kw.part made i).to rr a) = b
          refine ⟨by show 1 ≤ sizeLine; decide, fun z nz => ?_⟩
          have s8 : Same H7 (upd H7 z (.lst [iv 0])) := Same.new nz
          have hz8 : (upd H7 z (.lst [iv 0])) z = some (.lst [iv 0]) := upd_same
          generalize upd H7 z (.lst [iv 0]) = H8 at s8 hz8
          have s08 := st7.trans s8
          have hp := s08 _ _ hp
          have hl := s08 _ _ hl
          have hc0 := s08 _ _ hc0
          have hy := s08 _ _ hy
          refine ⟨.ref l, rfl, .ref p, rfl, p, _, _, _, rfl, rfl, SqT.of hp, (atI_nat (j := 1) rfl), l, _, _, _, rfl, rfl, SqL.of hl, atI_nat ev, c0, _, _, _, rfl, rfl, SqT.of hc0, (atI_nat (j := 2) rfl), iv ((Kw.part made i).to rr a), rfl, py, _, _, _, rfl, rfl, SqT.of hy, atI_nat (bl_get (ys_get cm hto)), .inr ⟨_, rfl, ?_⟩⟩
          rw [hb]
          refine ⟨z, _, _, rfl, rfl, hz8, by cases b <;> decide, by cases b <;> decide, by cases b <;> (show _ ≤ sizeLine; decide), fun z2 nz2 => ?_⟩
          have s9 : Same H8 (upd H8 z2 (.lst (List.replicate (if b = true then (1 : Int) else 0).toNat [iv 0]).flatten)) := Same.new nz2
          have hz9 : (upd H8 z2 (.lst (List.replicate (if b = true then (1 : Int) else 0).toNat [iv 0]).flatten)) z2 = some (.lst ((if b = true then [0] else []).map iv)) := by rw [upd_same]; cases b <;> rfl
          have hD9 := s9 _ _ (s8 _ _ hD7l)
          have bl : (if b = true then [0] else [] : List Nat).length ≤ 1 := by cases b <;> simp
          refine ⟨D, z2, _, _, rfl, rfl, hD9, hz9, by rw [List.length_map, List.length_map]; exact small' (by omega), fun t nt => ?_⟩
          have s10 := s9.trans (Same.new nt (u := .lst (ns.map iv ++ (if b = true then [0] else []).map iv)))
          rw [← List.map_append]
          refine ⟨_, rfl, .ref t, rfl, t, _, rfl, SqL.of upd_same, by rw [List.length_append]; omega, fun u c nu hc => ?_⟩
          refine ⟨u, _, c, rfl, upd_same, by rw [List.length_append] at hc; omega, fun is sp rise mem len np => ?_⟩
          have es := sorted_ss rise mem
          rw [es]
          refine ⟨sp, _, rfl, .inl ⟨SqL.of upd_same, fun t2 nt2 => ?_⟩⟩
          refine ⟨by show 2 ≤ sizeLine; decide, fun t3 nt3 => ?_⟩
          have ne3 : t2 ≠ t3 := fun e => by
            rw [← e, upd_same] at nt3
            cases nt3
          refine q _ _ (s08.trans (s9.trans ((Same.new nt).trans ((Same.new nu).trans ((Same.new np).trans ((Same.new nt2).trans (Same.new nt3))))))) ⟨t3, t2, rfl, upd_same, ?_⟩
          rw [upd_ne ne3, upd_same, ← hns, hb]
    | _ i j =>
      refine ⟨.ref p, rfl, p, _, _, _, rfl, rfl, SqT.of (hp), (atI_nat (j := 0) rfl), rfl, _, rfl, iteN (decide_eq_false (str_ne (by decide))) ?_⟩
      refine ⟨.ref p, rfl, p, _, _, _, rfl, rfl, SqT.of (hp), (atI_nat (j := 0) rfl), rfl, _, rfl, iteN (decide_eq_false (str_ne (by decide))) ?_⟩
      refine ⟨.ref p, rfl, p, _, _, _, rfl, rfl, SqT.of (hp), (atI_nat (j := 0) rfl), rfl, _, rfl, iteN (decide_eq_false (str_ne (by decide))) ?_⟩
      obtain ⟨v1, ev, c0, x, y, rfl, hc0, hx, _⟩ := hmd.at_ hf.1
      obtain ⟨v2, ev2, c2, x2, y2, rfl, hc2, hx2, _⟩ := hmd.at_ hf.2
      have cm := (hpt.at hf.1).1.toValid
      have cn := (hpt.at hf.2).1.toValid
      obtain ⟨px, vs, rfl, hpx, hvl, hrow⟩ := hx.row
      obtain ⟨px2, vs2, rfl, hpx2, hvl2, hrow2⟩ := hx2.row
      refine ⟨.ref l, rfl, .ref p, rfl, p, _, _, _, rfl, rfl, SqT.of hp, (atI_nat (j := 1) rfl), l, _, _, _, rfl, rfl, SqL.of hl, atI_nat ev, c0, _, _, _, rfl, rfl, SqT.of hc0, (atI_nat (j := 1) rfl), ?_⟩
      refine ⟨.ref p, rfl, p, _, _, _, rfl, rfl, SqT.of (hp), (atI_nat (j := 0) rfl), rfl, _, rfl, iteN (decide_eq_false (str_ne (by decide))) ?_⟩
      refine ⟨.ref l, rfl, .ref p, rfl, p, _, _, _, rfl, rfl, SqT.of hp, (atI_nat (j := 2) rfl), l, _, _, _, rfl, rfl, SqL.of hl, atI_nat ev2, c2, _, _, _, rfl, rfl, SqT.of hc2, (atI_nat (j := 1) rfl), ?_⟩
      refine ⟨.ref p, rfl, p, _, _, _, rfl, rfl, SqT.of hp, (atI_nat (j := 0) rfl), rfl, _, rfl, iteP (by rw [decide_eq_false (str_ne (by decide))]; rfl) ?_⟩
      cases rm with
      | one => exact hok.elim
      | some => exact hok.elim
      | two r1 r2 =>
        obtain ⟨pv, rfl, hpv⟩ := hrm
        obtain ⟨q1, e1, h1⟩ := hrow r1 _ (mv_get hok.1)
        obtain ⟨q2, e2, h2⟩ := hrow2 r2 _ (mv_get hok.2)
        refine ⟨.ref px, rfl, .ref pv, rfl, pv, _, _, _, rfl, rfl, SqT.of hpv, (atI_nat (j := 0) rfl), px, _, _, _, rfl, rfl, SqT.of hpx, atI_nat e1, iv a, rfl, q1, _, _, _, rfl, rfl, SqT.of h1, atI_nat (iv_get (to_get cm hok.1 ha)), ?_⟩
        refine ⟨.ref px2, rfl, .ref pv, rfl, pv, _, _, _, rfl, rfl, SqT.of hpv, (atI_nat (j := 1) rfl), px2, _, _, _, rfl, rfl, SqT.of hpx2, atI_nat e2, iv a, rfl, q2, _, _, _, rfl, rfl, SqT.of h2, atI_nat (iv_get (to_get cn hok.2 ha)), ?_⟩
        exact ⟨by show 2 ≤ sizeLine; decide, fun u n => q _ _ (Same.new n) ⟨u, rfl, upd_same⟩⟩
theorem ok_lyes {f : Addr} {fd : FuncData} (F : Fun K "_law_has_yes" "_law_has_yes" sLHasYes f fd) (many : mg "any" = none) : FnOk P w K mg base CX0 1 f fd ["_law_row", "_law_made_here", "_law_room"] spLYes := by
  refine F.ok scLHasYes (fun vs H Q E h => ?_) (fun cdv A outer s H vs Q E hr h => ?_)
  · obtain ⟨ls, r, l, row, made, v, rm, rfl, _⟩ := h
    rfl
  · obtain ⟨ls, r, l, row, made, v, rm, rfl, ⟨vm, ⟨p, rfl, hp⟩, hl, hmd, hf, hpt, hk, hnd⟩, hrm, hok, q⟩ := h
    have nd := scLHasYes.nd
    refine ⟨_, pss_cons (ps_if (pt_cmpR op_in_seq (pe_ix ix_tup (pv 0) (pe_int) (fun _ _ => rfl)) (pe_tup (pa_cons (pe_str) (pa_cons (pe_str) (pa_cons (pe_str) pa_nil)))) (by rfl)) (pss_one (ps_ret (pe_or (pe_and (pe_cmpR op_eq (pe_ix ix_tup (pv 0) (pe_int) (fun _ _ => rfl)) pe_str (nomark _)) (pe_one (pe_cmpR op_eq (pv 2) pe_int (nomark _)))) (pe_one (pe_and (pe_cmpR op_eq (pe_ix ix_tup (pv 0) (pe_int) (fun _ _ => rfl)) pe_str (nomark _)) (pe_one (pe_cmpR op_eq (pv 2) pe_int (nomark _)))))))) (pss_nil))
      (pss_cons (ps_set (i := 3) nd rfl (by first | exact Or.inl rfl | exact Or.inr rfl) (pe_ix ix_tup (pe_ix ix_list (pv 1) (pe_ix ix_tup (pv 0) (pe_int) (fun _ _ => rfl)) (fun _ _ => rfl)) (pe_int) (fun _ _ => rfl)))
      (pss_cons (ps_if (pt_cmpR op_eq (pe_ix ix_tup (pv 0) (pe_int) (fun _ _ => rfl)) (pe_str) (nomark _)) (pss_one (ps_ret (pe_not (pe_ix ix_tup (pv 3) (pv 2) (fun _ _ => rfl))))) (pss_nil))
      (pss_cons (ps_set (i := 4) nd rfl (by first | exact Or.inl rfl | exact Or.inr rfl) (pe_ix ix_tup (pe_ix ix_list (pv 1) (pe_ix ix_tup (pv 0) (pe_int) (fun _ _ => rfl)) (fun _ _ => rfl)) (pe_int) (fun _ _ => rfl)))
      (pss_cons (ps_if (pt_cmpR op_eq (pe_ix ix_tup (pv 0) (pe_int) (fun _ _ => rfl)) (pe_str) (nomark _)) (pss_one (ps_ret (pe_or (pe_ix ix_tup (pv 3) (pe_ix ix_tup (pv 2) (pe_int) (fun _ _ => rfl)) (fun _ _ => rfl)) (pe_one (pe_ix ix_tup (pv 4) (pe_ix ix_tup (pv 2) (pe_int) (fun _ _ => rfl)) (fun _ _ => rfl)))))) (pss_nil))
      (pss_cons (ps_if (pt_cmpR op_eq (pe_ix ix_tup (pv 0) (pe_int) (fun _ _ => rfl)) (pe_str) (nomark _)) (pss_one (ps_ret (pe_and (pe_ix ix_tup (pv 3) (pe_ix ix_tup (pv 2) (pe_int) (fun _ _ => rfl)) (fun _ _ => rfl)) (pe_one (pe_ix ix_tup (pv 4) (pe_ix ix_tup (pv 2) (pe_int) (fun _ _ => rfl)) (fun _ _ => rfl)))))) (pss_nil))
      (pss_one (ps_ret (pe_callB (cr_any rfl) (by rfl) many bAny (pa_cons (pe_lc (own := [("_law_spot", 5)]) (g := gName 5) (tt := tYes) rfl nd (piT K (pe_ix (ixT K) (pv 2) (pe_int) (fun _ _ => rfl))) (blkOk_by (own := [("_law_spot", 5)]) (N := nLHasYes) (sc := (defScope sLHasYes)) (by decide +kernel)) (fun _ _ _ _ _ => pg_name (i := 5) nd rfl (Or.inl rfl)) (fun _ _ _ _ _ => pts_nil) (fun _ _ _ _ _ => pe_ix (ixT K) (pv 4) (pv 5) (fun _ _ => rfl))) pa_nil))))))))), ?_⟩
    have inw : ∀ (x : Str) (b : Bool), inV (.str x) [.str "nothing", .str "blank", .str "letter"] = b → b = inV (.str x) [.str "nothing", .str "blank", .str "letter"] := fun _ _ e => e.symm
    cases row with
    | nothing =>
      refine ⟨.ref p, rfl, p, _, _, _, rfl, rfl, SqT.of hp, (atI_nat (j := 0) rfl), by show 3 ≤ sizeLine; decide, fun t nt => ?_⟩
      refine ⟨t, _, rfl, .inr (SqT.of upd_same), rfl, rfl, _, rfl, iteP (by decide) ?_⟩
      have hp := (Same.new nt (u := .tup [.str "nothing", .str "blank", .str "letter"])) _ _ hp
      refine ⟨.ref p, rfl, p, _, _, _, rfl, rfl, SqT.of hp, (atI_nat (j := 0) rfl), rfl, _, rfl, iteN (decide_eq_false (str_ne (by decide))) ?_⟩
      refine ⟨_, rfl, iteN rfl ?_⟩
      refine ⟨.ref p, rfl, p, _, _, _, rfl, rfl, SqT.of hp, (atI_nat (j := 0) rfl), rfl, _, rfl, iteN (decide_eq_false (str_ne (by decide))) ?_⟩
      cases rm <;> first | exact hok.elim | exact q _ (Same.new nt)
    | blank =>
      refine ⟨.ref p, rfl, p, _, _, _, rfl, rfl, SqT.of hp, (atI_nat (j := 0) rfl), by show 3 ≤ sizeLine; decide, fun t nt => ?_⟩
      refine ⟨t, _, rfl, .inr (SqT.of upd_same), rfl, rfl, _, rfl, iteP (by decide) ?_⟩
      have hp := (Same.new nt (u := .tup [.str "nothing", .str "blank", .str "letter"])) _ _ hp
      cases rm with
      | two => exact hok.elim
      | some => exact hok.elim
      | one rr =>
        obtain rfl : v = iv rr := hrm
        refine ⟨.ref p, rfl, p, _, _, _, rfl, rfl, SqT.of hp, (atI_nat (j := 0) rfl), rfl, _, rfl, iteP (decide_eq_true rfl) ?_⟩
        have e : decide (iv rr = V.int 0) = (rr == 0) := by
          by_cases z : rr = 0
          · subst z; rfl
          · have z' : ¬ (iv rr = V.int 0) := fun y => z (by have := V.int.inj y; omega)
            rw [decide_eq_false z']
            exact (beq_eq_false_iff_ne.mpr z).symm
        refine ⟨iv rr, rfl, rfl, _, rfl, ?_⟩
        have q' := q _ (Same.new nt (u := .tup [.str "nothing", .str "blank", .str "letter"]))
        refine iteB (fun e1 => ?_) (fun e1 => ?_)
        · have e2 : (rr == 0) = true := by rw [← e]; exact e1
          have q'' : yesR made .blank (.one rr) = true := e2
          rw [q''] at q'
          exact q'
        · refine ⟨.ref p, rfl, p, _, _, _, rfl, rfl, SqT.of hp, (atI_nat (j := 0) rfl), rfl, _, rfl, iteN (decide_eq_false (str_ne (by decide))) ?_⟩
          have e2 : (rr == 0) = false := by rw [← e]; exact e1
          have q'' : yesR made .blank (.one rr) = false := e2
          rw [q''] at q'
          exact q'
    | letter b =>
      refine ⟨.ref p, rfl, p, _, _, _, rfl, rfl, SqT.of hp, (atI_nat (j := 0) rfl), by show 3 ≤ sizeLine; decide, fun t nt => ?_⟩
      refine ⟨t, _, rfl, .inr (SqT.of upd_same), rfl, rfl, _, rfl, iteP (by decide) ?_⟩
      have hp := (Same.new nt (u := .tup [.str "nothing", .str "blank", .str "letter"])) _ _ hp
      cases rm with
      | two => exact hok.elim
      | some => exact hok.elim
      | one rr =>
        obtain rfl : v = iv rr := hrm
        refine ⟨.ref p, rfl, p, _, _, _, rfl, rfl, SqT.of hp, (atI_nat (j := 0) rfl), rfl, _, rfl, iteN (decide_eq_false (str_ne (by decide))) ?_⟩
        refine ⟨_, rfl, iteN rfl ?_⟩
        refine ⟨.ref p, rfl, p, _, _, _, rfl, rfl, SqT.of hp, (atI_nat (j := 0) rfl), rfl, _, rfl, iteP (decide_eq_true rfl) ?_⟩
        have e : decide (iv rr = V.int 1) = (rr == 1) := by
          by_cases z : rr = 1
          · subst z; rfl
          · have z' : ¬ (iv rr = V.int 1) := fun y => z (by have := V.int.inj y; omega)
            rw [decide_eq_false z']
            exact (beq_eq_false_iff_ne.mpr z).symm
        refine ⟨iv rr, rfl, rfl, ?_⟩
        have q' := q _ (Same.new nt (u := .tup [.str "nothing", .str "blank", .str "letter"]))
        rw [e]
        exact q'
    | no i =>
      refine ⟨.ref p, rfl, p, _, _, _, rfl, rfl, SqT.of hp, (atI_nat (j := 0) rfl), by show 3 ≤ sizeLine; decide, fun t nt => ?_⟩
      refine ⟨t, _, rfl, .inr (SqT.of upd_same), rfl, rfl, _, rfl, iteN (by decide) ?_⟩
      have s1 : Same H (upd H t (.tup [.str "nothing", .str "blank", .str "letter"])) := Same.new nt
      have hp := s1 _ _ hp
      obtain ⟨v1, ev, c0, x, y, rfl, hc0, _, py, rfl, hy⟩ := hmd.at_ hf
      have cm := (hpt.at hf).1.toValid
      refine ⟨.ref l, rfl, .ref p, rfl, p, _, _, _, rfl, rfl, SqT.of hp, (atI_nat (j := 1) rfl), l, _, _, _, rfl, rfl, SqL.of (s1 _ _ hl), atI_nat ev, c0, _, _, _, rfl, rfl, SqT.of (s1 _ _ hc0), (atI_nat (j := 2) rfl), ?_⟩
      refine ⟨.ref p, rfl, p, _, _, _, rfl, rfl, SqT.of (hp), (atI_nat (j := 0) rfl), rfl, _, rfl, iteP (decide_eq_true rfl) ?_⟩
      cases rm with
      | two => exact hok.elim
      | some => exact hok.elim
      | one rr =>
        obtain rfl : v = iv rr := hrm
        exact ⟨.ref py, rfl, iv rr, rfl, py, _, _, _, rfl, rfl, SqT.of (s1 _ _ hy), atI_nat (bl_get (ys_get cm hok)), _, rfl, q _ s1⟩
    | or i j =>
      refine ⟨.ref p, rfl, p, _, _, _, rfl, rfl, SqT.of hp, (atI_nat (j := 0) rfl), by show 3 ≤ sizeLine; decide, fun t nt => ?_⟩
      refine ⟨t, _, rfl, .inr (SqT.of upd_same), rfl, rfl, _, rfl, iteN (by decide) ?_⟩
      have s1 : Same H (upd H t (.tup [.str "nothing", .str "blank", .str "letter"])) := Same.new nt
      have hp := s1 _ _ hp
      obtain ⟨v1, ev, c0, x, y, rfl, hc0, _, py, rfl, hy⟩ := hmd.at_ hf.1
      obtain ⟨v2, ev2, c2, x2, y2, rfl, hc2, _, py2, rfl, hy2⟩ := hmd.at_ hf.2
      have cm := (hpt.at hf.1).1.toValid
      have cn := (hpt.at hf.2).1.toValid
      refine ⟨.ref l, rfl, .ref p, rfl, p, _, _, _, rfl, rfl, SqT.of hp, (atI_nat (j := 1) rfl), l, _, _, _, rfl, rfl, SqL.of (s1 _ _ hl), atI_nat ev, c0, _, _, _, rfl, rfl, SqT.of (s1 _ _ hc0), (atI_nat (j := 2) rfl), ?_⟩
      refine ⟨.ref p, rfl, p, _, _, _, rfl, rfl, SqT.of (hp), (atI_nat (j := 0) rfl), rfl, _, rfl, iteN (decide_eq_false (str_ne (by decide))) ?_⟩
      refine ⟨.ref l, rfl, .ref p, rfl, p, _, _, _, rfl, rfl, SqT.of hp, (atI_nat (j := 2) rfl), l, _, _, _, rfl, rfl, SqL.of (s1 _ _ hl), atI_nat ev2, c2, _, _, _, rfl, rfl, SqT.of (s1 _ _ hc2), (atI_nat (j := 2) rfl), ?_⟩
      refine ⟨.ref p, rfl, p, _, _, _, rfl, rfl, SqT.of (hp), (atI_nat (j := 0) rfl), rfl, _, rfl, iteP (decide_eq_true rfl) ?_⟩
      cases rm with
      | one => exact hok.elim
      | some => exact hok.elim
      | two r1 r2 =>
        obtain ⟨pv, rfl, hpv⟩ := hrm
        have hpv := s1 _ _ hpv
        have q' := q _ s1
        refine ⟨.ref py, rfl, .ref pv, rfl, pv, _, _, _, rfl, rfl, SqT.of hpv, (atI_nat (j := 0) rfl), py, _, _, _, rfl, rfl, SqT.of (s1 _ _ hy), atI_nat (bl_get (ys_get cm hok.1)), _, rfl, iteB (fun e => ?_) (fun e => ?_)⟩
        · have e2 : yesR made (.or i j) (.two r1 r2) = true := by
            show ((Kw.part made i).y r1 || (Kw.part made j).y r2) = true
            rw [e]
            rfl
          rw [e2] at q'
          exact q'
        · have e2 : yesR made (.or i j) (.two r1 r2) = (Kw.part made j).y r2 := by
            show ((Kw.part made i).y r1 || (Kw.part made j).y r2) = _
            rw [e]
            rfl
          rw [e2] at q'
          exact ⟨.ref py2, rfl, .ref pv, rfl, pv, _, _, _, rfl, rfl, SqT.of hpv, (atI_nat (j := 1) rfl), py2, _, _, _, rfl, rfl, SqT.of (s1 _ _ hy2), atI_nat (bl_get (ys_get cn hok.2)), q'⟩
    | and i j =>
      refine ⟨.ref p, rfl, p, _, _, _, rfl, rfl, SqT.of hp, (atI_nat (j := 0) rfl), by show 3 ≤ sizeLine; decide, fun t nt => ?_⟩
      refine ⟨t, _, rfl, .inr (SqT.of upd_same), rfl, rfl, _, rfl, iteN (by decide) ?_⟩
      have s1 : Same H (upd H t (.tup [.str "nothing", .str "blank", .str "letter"])) := Same.new nt
      have hp := s1 _ _ hp
      obtain ⟨v1, ev, c0, x, y, rfl, hc0, _, py, rfl, hy⟩ := hmd.at_ hf.1
      obtain ⟨v2, ev2, c2, x2, y2, rfl, hc2, _, py2, rfl, hy2⟩ := hmd.at_ hf.2
      have cm := (hpt.at hf.1).1.toValid
      have cn := (hpt.at hf.2).1.toValid
      refine ⟨.ref l, rfl, .ref p, rfl, p, _, _, _, rfl, rfl, SqT.of hp, (atI_nat (j := 1) rfl), l, _, _, _, rfl, rfl, SqL.of (s1 _ _ hl), atI_nat ev, c0, _, _, _, rfl, rfl, SqT.of (s1 _ _ hc0), (atI_nat (j := 2) rfl), ?_⟩
      refine ⟨.ref p, rfl, p, _, _, _, rfl, rfl, SqT.of (hp), (atI_nat (j := 0) rfl), rfl, _, rfl, iteN (decide_eq_false (str_ne (by decide))) ?_⟩
      refine ⟨.ref l, rfl, .ref p, rfl, p, _, _, _, rfl, rfl, SqT.of hp, (atI_nat (j := 2) rfl), l, _, _, _, rfl, rfl, SqL.of (s1 _ _ hl), atI_nat ev2, c2, _, _, _, rfl, rfl, SqT.of (s1 _ _ hc2), (atI_nat (j := 2) rfl), ?_⟩
      refine ⟨.ref p, rfl, p, _, _, _, rfl, rfl, SqT.of (hp), (atI_nat (j := 0) rfl), rfl, _, rfl, iteN (decide_eq_false (str_ne (by decide))) ?_⟩
      refine ⟨.ref p, rfl, p, _, _, _, rfl, rfl, SqT.of (hp), (atI_nat (j := 0) rfl), rfl, _, rfl, iteP (decide_eq_true rfl) ?_⟩
      cases rm with
      | one => exact hok.elim
      | some => exact hok.elim
      | two r1 r2 =>
        obtain ⟨pv, rfl, hpv⟩ := hrm
        have hpv := s1 _ _ hpv
        have q' := q _ s1
        refine ⟨.ref py, rfl, .ref pv, rfl, pv, _, _, _, rfl, rfl, SqT.of hpv, (atI_nat (j := 0) rfl), py, _, _, _, rfl, rfl, SqT.of (s1 _ _ hy), atI_nat (bl_get (ys_get cm hok.1)), _, rfl, iteB (fun e => ?_) (fun e => ?_)⟩
        · have e2 : yesR made (.and i j) (.two r1 r2) = (Kw.part made j).y r2 := by
            show ((Kw.part made i).y r1 && (Kw.part made j).y r2) = _
            rw [e]
            rfl
          rw [e2] at q'
          exact ⟨.ref py2, rfl, .ref pv, rfl, pv, _, _, _, rfl, rfl, SqT.of hpv, (atI_nat (j := 1) rfl), py2, _, _, _, rfl, rfl, SqT.of (s1 _ _ hy2), atI_nat (bl_get (ys_get cn hok.2)), q'⟩
        · have e2 : yesR made (.and i j) (.two r1 r2) = false := by
            show ((Kw.part made i).y r1 && (Kw.part made j).y r2) = false
            rw [e]
            rfl
          rw [e2] at q'
          exact q'
    | behind i j =>
      refine ⟨.ref p, rfl, p, _, _, _, rfl, rfl, SqT.of hp, (atI_nat (j := 0) rfl), by show 3 ≤ sizeLine; decide, fun t nt => ?_⟩
      refine ⟨t, _, rfl, .inr (SqT.of upd_same), rfl, rfl, _, rfl, iteN (by decide) ?_⟩
      have s1 : Same H (upd H t (.tup [.str "nothing", .str "blank", .str "letter"])) := Same.new nt
      have hp := s1 _ _ hp
      obtain ⟨v1, ev, c0, x, y, rfl, hc0, _, py, rfl, hy⟩ := hmd.at_ hf.1
      obtain ⟨v2, ev2, c2, x2, y2, rfl, hc2, _, py2, rfl, hy2⟩ := hmd.at_ hf.2
      have cn := (hpt.at hf.2).1.toValid
      have jl := (hpt.at hf.2).2
      refine ⟨.ref l, rfl, .ref p, rfl, p, _, _, _, rfl, rfl, SqT.of hp, (atI_nat (j := 1) rfl), l, _, _, _, rfl, rfl, SqL.of (s1 _ _ hl), atI_nat ev, c0, _, _, _, rfl, rfl, SqT.of (s1 _ _ hc0), (atI_nat (j := 2) rfl), ?_⟩
      refine ⟨.ref p, rfl, p, _, _, _, rfl, rfl, SqT.of (hp), (atI_nat (j := 0) rfl), rfl, _, rfl, iteN (decide_eq_false (str_ne (by decide))) ?_⟩
      refine ⟨.ref l, rfl, .ref p, rfl, p, _, _, _, rfl, rfl, SqT.of hp, (atI_nat (j := 2) rfl), l, _, _, _, rfl, rfl, SqL.of (s1 _ _ hl), atI_nat ev2, c2, _, _, _, rfl, rfl, SqT.of (s1 _ _ hc2), (atI_nat (j := 2) rfl), ?_⟩
      refine ⟨.ref p, rfl, p, _, _, _, rfl, rfl, SqT.of (hp), (atI_nat (j := 0) rfl), rfl, _, rfl, iteN (decide_eq_false (str_ne (by decide))) ?_⟩
      refine ⟨.ref p, rfl, p, _, _, _, rfl, rfl, SqT.of (hp), (atI_nat (j := 0) rfl), rfl, _, rfl, iteN (decide_eq_false (str_ne (by decide))) ?_⟩
      cases rm with
      | one => exact hok.elim
      | two => exact hok.elim
      | some rr js =>
        obtain ⟨pv, pj, rfl, hpv, hpj⟩ := hrm
        obtain ⟨ok1, ok2, ok3⟩ := hok
        have hpv := s1 _ _ hpv
        have hpj := s1 _ _ hpj
        have hy2 := s1 _ _ hy2
        have jsl : js.length ≤ 60 := by
          have : js.length ≤ (Kw.part made j).mv.length := nodup_lt_length (ok2.imp fun h => Nat.ne_of_lt h) ok3
          omega
        refine ⟨.ref pv, rfl, pv, _, _, _, rfl, rfl, SqT.of hpv, (atI_nat (j := 1) rfl), pj, rfl, ⟨_, SqT.of hpj⟩, fun D hD => ?_⟩
        refine lc_of_tup (xs := js.map iv) (fun j' v _ => ∀ t, js[j']? = some t → v = .bl ((Kw.part made j).y t)) (fun i v _ _ h _ => h) hD (fun H7 st7 => SqT.of (st7 _ _ hpj)) (by rw [List.length_map]; exact small' (by omega)) (fun j' v hj => ?_) (fun H7 ys st7 hD7l hyl7 hys7 => ?_)
        · intro H7 R' S' st7 hR'
          rw [List.getElem?_map] at hj
          obtain ⟨t, ht, rfl⟩ := Option.map_eq_some_iff.mp hj
          have tl := ok3 t (List.mem_of_getElem? ht)
          refine ⟨rfl, ?_⟩
          refine ⟨.ref py2, rfl, iv t, rfl, py2, _, _, _, rfl, rfl, SqT.of (st7 _ _ hy2), atI_nat (bl_get (ys_get cn tl)), hR' _ _ (Same.refl _) fun t' e => ?_⟩
          rw [ht] at e
          cases e
          rfl
        · have eys : ys = (js.map (Kw.part made j).y).map V.bl := by
            rw [List.map_map]
            exact all_map (f := fun t => V.bl ((Kw.part made j).y t)) (by rw [hyl7, List.length_map]) hys7
          rw [eys] at hD7l
          have e : (js.map (Kw.part made j).y).any id = js.any (Kw.part made j).y := by rw [List.any_map]; rfl
          refine ⟨D, js.map (Kw.part made j).y, rfl, SqL.of hD7l, ?_⟩
          rw [e]
          exact q H7 (s1.trans st7)
end
end Cw
set_option Elab.async false
set_option linter.all false
set_option maxRecDepth 100000
set_option maxHeartbeats 8000000
/-! _law_grown -/
namespace Cw
open PySem PySem.Spec PyProof.Rows L2 Kw
section
variable {P : Program} {w : World} {K : PySem.W.Frag} {mg : Str → Option Value} {base : Heap}
theorem LRow.same {ls : Str} {H H' : Hp} {r : V} {l : Addr} {row : Kw.Row} {made : List Mc} (h : LRow ls H r l row made) (s : Same H H') : LRow ls H' r l row made :=
  let ⟨vm, a, b, c, d⟩ := h
  ⟨vm, a.tst s.tst, s _ _ b, c.tst s.tst, d⟩
theorem okR_flat {k : Nat} {made : List Mc} {row : Kw.Row} {r : Rm} (h : okR k made row r) : flat r = !row.joint := by
  cases row <;> cases r <;> first | exact h.elim | rfl
def wdR : Kw.Row → Str
  | .nothing => "nothing"
  | .blank => "blank"
  | .letter _ => "letter"
  | .no _ => "not"
  | .or _ _ => "or"
  | .and _ _ => "and"
  | .behind _ _ => "behind"
theorem wdR_0 {lsl : List Nat} {row : Kw.Row} : (rowVs lsl row)[0]? = some (.str (wdR row)) := by cases row <;> rfl
theorem wdR_in : ∀ {row : Kw.Row}, inV (.str (wdR row)) [.str "or", .str "and", .str "behind"] = row.joint
  | .nothing => by decide
  | .blank => by decide
  | .letter _ => (by decide : inV (.str "letter") [.str "or", .str "and", .str "behind"] = false)
  | .no _ => (by decide : inV (.str "not") [.str "or", .str "and", .str "behind"] = false)
  | .or _ _ => (by decide : inV (.str "or") [.str "or", .str "and", .str "behind"] = true)
  | .and _ _ => (by decide : inV (.str "and") [.str "or", .str "and", .str "behind"] = true)
  | .behind _ _ => (by decide : inV (.str "behind") [.str "or", .str "and", .str "behind"] = true)
theorem and_join {b : Bool} {A Rt : Prop} {R : Hp → Prop} {H : Hp} (N : Hp → Prop) (hN : ∀ H', N H' → R H') (h1 : b = true → (∀ H', N H' → R H') → A) (h2 : b = false → N H) : if b = true then A else (if false = true then Rt else R H) := by
  cases b with
  | true => exact iteP rfl (h1 rfl hN)
  | false => exact iteN rfl (iteN rfl (hN _ (h2 rfl)))
def spLGrown : Sp := fun vs H Q _ => ∃ (ls : Str) (r : V) (l : Addr) (row : Kw.Row) (made : List Mc) (most : Nat), vs = [.str ls, r, .ref l, iv most] ∧ LRow ls H r l row made ∧ most ≤ 400 ∧
  (over ls.length made most row = true → ∀ H', Same H H' → Q .non H') ∧ (over ls.length made most row = false → ∀ H' v, Same H H' → McAt H' v ls (grownM ls.length made row) → Q v H')
theorem ok_lgrown {f fF fO fY : Addr} {fd fdF fdO fdY : FuncData} (F : Fun K "_law_grown" "_law_grown" sLGrown f fd)
    (GF : FnOk P w K mg base CX0 1 fF fdF ["_law_row", "_law_made_here"] spLFirst) (kF : PySem.W.keepIn K (.ref fF) = true) (bF : Binds K fdF ["_law_row", "_law_made_here"] []) (gF : mg "_law_first" = some (.ref fF))
    (GO : FnOk P w K mg base CX0 1 fO fdO ["_law_letters_here", "_law_row", "_law_made_here", "_law_room", "_law_k"] spLOnward) (kO : PySem.W.keepIn K (.ref fO) = true) (bO : Binds K fdO ["_law_letters_here", "_law_row", "_law_made_here", "_law_room", "_law_k"] []) (gO : mg "_law_onward" = some (.ref fO))
    (GY : FnOk P w K mg base CX0 1 fY fdY ["_law_row", "_law_made_here", "_law_room"] spLYes) (kY : PySem.W.keepIn K (.ref fY) = true) (bY : Binds K fdY ["_law_row", "_law_made_here", "_law_room"] []) (gY : mg "_law_has_yes" = some (.ref fY))
    (mlen : mg "len" = none) (mtup : mg "tuple" = none) (mrng : mg "range" = none) : FnOk P w K mg base CX0 2 f fd ["_law_letters_here", "_law_row", "_law_made_here", "_law_most"] spLGrown := by
  refine F.ok scLGrown (fun vs H Q E h => ?_) (fun cdv A outer s H vs Q E hr h => ?_)
  · obtain ⟨ls, r, l, row, made, most, rfl, _⟩ := h
    rfl
  · obtain ⟨ls, rv, l, row, made, most, rfl, hR, hmost, qN, qT⟩ := h
    have nd := scLGrown.nd
    have hr1 := hr
    refine ⟨_, pss_cons (ps_set (i := 4) nd rfl (by first | exact Or.inl rfl | exact Or.inr rfl) (pe_lst (pa_cons (pe_call GF hr1 (by rfl) gF kF bF .nil pass0 (pa_cons (pv 1) (pa_cons (pv 2) pa_nil))) pa_nil)))
      (pss_cons (ps_set (i := 5) nd rfl (by first | exact Or.inl rfl | exact Or.inr rfl) (pe_rdisp (!row.joint) hr (pe_ix ix_list (pv 4) (pe_int) (fun _ _ => rfl)) pe_int))
      (pss_cons (ps_set (i := 6) nd rfl (by first | exact Or.inl rfl | exact Or.inr rfl) (pe_lst pa_nil))
      (pss_cons (ps_while PassesOwn.never (pt_cmpR op_lt (pe_callB call_len_seq (by rfl) mlen PySem.boot_len (pa_cons (pv 6) pa_nil)) (pe_callB call_len_seq (by rfl) mlen PySem.boot_len (pa_cons (pv 4) pa_nil)) (nomark _))
      (pss_cons (ps_if (PW.pt (pw_and (pt_cmpR op_gt (pe_callB call_len_seq (by rfl) mlen PySem.boot_len (pa_cons (pv 4) pa_nil)) (pv 3) (nomark _)) (pw_and1 (pt_cmpR op_in_seq (pe_ix ix_tup (pv 1) (pe_int) (fun _ _ => rfl)) (pe_tup (pa_cons (pe_str) (pa_cons (pe_str) (pa_cons (pe_str) pa_nil)))) (by rfl))))) (pss_one (ps_ret pe_non)) (pss_nil))
      (pss_cons (ps_set (i := 7) nd rfl (by first | exact Or.inl rfl | exact Or.inr rfl) (pe_lst pa_nil))
      (pss_cons (ps_for PassesOwn.never rfl (pi_range1 (by rfl) mrng (pa_cons (pe_callB (lenV K) (by rfl) mlen PySem.boot_len (pa_cons (pv 0) pa_nil)) pa_nil)) (pg_name (i := 8) nd rfl (by first | exact Or.inl rfl | exact Or.inr rfl))
      (pss_cons (ps_set (i := 9) nd rfl (by first | exact Or.inl rfl | exact Or.inr rfl) (pe_call GO hr1 (by rfl) gO kO bO .nil pass0 (pa_cons (pv 0) (pa_cons (pv 1) (pa_cons (pv 2) (pa_cons (pe_ix ix_list (pv 4) (pe_callB call_len_seq (by rfl) mlen PySem.boot_len (pa_cons (pv 6) pa_nil)) (fun _ _ => rfl)) (pa_cons (pv 8) pa_nil)))))))
      (pss_cons (ps_if (pt_cmp (pc_rnotin hr (pv 9) (pv 5))) (pss_cons (ps_rput hr (pv 5) (pv 9) (pe_callB call_len_seq (by rfl) mlen PySem.boot_len (pa_cons (pv 4) pa_nil)) rfl)
      (pss_one (ps_expr (pe_bm PySem.F.plainAttrs_list PySem.F.slot_list_append PySem.F.type_list_append mt_append (pv 4) (pa_cons (pv 9) pa_nil))))) (pss_nil))
      (pss_one (ps_expr (pe_bm PySem.F.plainAttrs_list PySem.F.slot_list_append PySem.F.type_list_append mt_append (pv 7) (pa_cons (pe_rget hr (pv 5) (pv 9) (fun _ _ => rfl)) pa_nil)))))))
      (pss_one (ps_expr (pe_bm PySem.F.plainAttrs_list PySem.F.slot_list_append PySem.F.type_list_append mt_append (pv 6) (pa_cons (pe_callTy call_tuple_of (by rfl) mtup bTuple (pa_cons (pv 7) pa_nil)) pa_nil))))))))
      (pss_one (ps_ret (pe_tup (pa_cons (pv 0) (pa_cons (pe_callTy call_tuple_of (by rfl) mtup bTuple (pa_cons (pv 6) pa_nil)) (pa_cons (pe_callTy (tupOf K) (by rfl) mtup bTuple (pa_cons (pe_lc (own := [("_law_room", 9)]) (g := gName 9) (tt := tYes) rfl nd (piL K (pv 4)) (blkOk_by (own := [("_law_room", 9)]) (N := nLGrown) (sc := (defScope sLGrown)) (by decide +kernel)) (fun _ _ _ _ _ => pg_name (i := 9) nd rfl (Or.inl rfl)) (fun _ _ _ _ _ => pts_nil) (fun _ _ _ _ _ => pe_call GY hr1 (by rfl) gY kY bY .nil pass0 (pa_cons (pv 1) (pa_cons (pv 2) (pa_cons (pv 9) pa_nil))))) pa_nil)) pa_nil))))))))), ?_⟩
    obtain ⟨pr, erv⟩ : ∃ pr, rv = .ref pr := by
      obtain ⟨_, ⟨p, e, _⟩, _⟩ := hR
      exact ⟨p, e⟩
    subst erv
    have hrowAt : ∀ H', Same H H' → H' pr = some (.tup (rowVs ls.cps.toList row)) := fun H' s => by
      obtain ⟨_, ⟨p, e, h⟩, _⟩ := hR
      cases e
      exact s _ _ h
    obtain ⟨_, _, _, _, hf, hpt, hk, hnd⟩ := id hR
    generalize hkk : ls.length = k at hf hpt hk qN qT
    let g : Gr Rm := gr made row
    let rm : Nat → List Rm := fun n => it (g.succ k) g.first n
    have okr : ∀ n, ∀ t ∈ rm n, okR k made row t := rooms_ok hpt hf
    have okf : ∀ n, ∀ t ∈ rm n, flat t = !row.joint := fun n t ht => okR_flat (okr n t ht)
    have few : row.joint = false → ∀ n, (rm n).length ≤ 60 := fun hj n => by
      have : (rm n).length ≤ max 60 3 := rooms_few hpt hf hj n
      omega
    -- order, numbers, moves
    refine ⟨.ref pr, rfl, .ref l, rfl, ls, .ref pr, l, row, made, rfl, hR, fun H0 v0 s0 h0 => ?_⟩
    refine ⟨by show 1 ≤ sizeLine; decide, fun r nr => ?_⟩
    have s1 : Same H (upd H0 r (.lst [v0])) := s0.trans (Same.new nr)
    have hr1' : (upd H0 r (.lst [v0])) r = some (.lst [v0]) := upd_same
    have h1 : RmAt (upd H0 r (.lst [v0])) v0 g.first := h0.ts (Tst.new nr)
    generalize upd H0 r (.lst [v0]) = H1 at s1 hr1' h1
    refine fun p np => ?_
    have npr : p ≠ r := (ne_of_none hr1' np).symm
    refine ⟨.ref r, rfl, r, _, _, _, rfl, rfl, SqL.of (by rw [upd_ne (Ne.symm npr)]; exact hr1'), (atI_nat (j := 0) rfl), upd_same, g.first, h1.ts (Tst.new np), okf 0 _ (by exact List.mem_of_getElem? (i := 0) rfl), fun o d => ?_⟩
    refine ⟨by show 0 ≤ sizeLine; decide, fun mm nmm => ?_⟩
    have eo : upd (upd H1 p (.dK [])) p o = upd H1 p o := by
      funext b
      by_cases z : b = p
      · subst z
        rw [upd_same, upd_same]
      · rw [upd_ne z, upd_ne z, upd_ne z]
    rw [eo] at d nmm ⊢
    have npH : H p = none := none_same s1 np
    have nrH : H r = none := none_same s0 nr
    have s2 : Same H (upd H1 p o) := s1.upd npH
    have hl2 : (upd H1 p o) r = some (.lst [v0]) := by rw [upd_ne (Ne.symm npr)]; exact hr1'
    have h2 : RmAt (upd H1 p o) v0 g.first := h1.ts (Tst.new np)
    generalize upd H1 p o = H2 at d nmm s2 hl2 h2
    have nmmH : H mm = none := none_same s2 nmm
    have nrm : r ≠ mm := ne_of_none hl2 nmm
    have npm : p ≠ mm := fun e => d.some' (by rw [e]; exact nmm)
    let Inv : Nat → List V → List V → Hp → Prop := fun n vs ms H' => Same H H' ∧ RDict P w H' p (!row.joint) (idxD (rm n)) ∧ H' r = some (.lst vs) ∧ Paired (RmAt H') vs (rm n) ∧ H' mm = some (.lst ms) ∧ ms.length = n ∧
      ∀ (j : Nat) (y : V), ms[j]? = some y → ∀ rr, (rm n)[j]? = some rr → NumsAt H' y ((g.succ k rr).map (rm n).idxOf)
    refine while_m (fun m σ H' => ∃ n vs ms y7 y8 y9, m = 1000 - n ∧ σ = [some (.str ls), some (.ref pr), some (.ref l), some (iv most), some (.ref r), some (.ref p), some (.ref mm), y7, y8, y9] ∧ Inv n vs ms H' ∧ ∀ j < n, j < (rm j).length ∧ (row.joint = true → (rm j).length ≤ most))
      ⟨1000, 0, [v0], [], none, none, none, rfl, rfl, ⟨s2.upd nmmH, ?_, ?_, ?_, upd_same, rfl, fun j y e => by simp at e⟩, fun j hj => absurd hj (by omega)⟩ (fun m σ H' hI => ?_)
    · exact d.same (upd_ne npm) (Tst.new nmm)
    · rw [upd_ne nrm]
      exact hl2
    · exact .cons (h2.ts (Tst.new nmm)) .nil
    · obtain ⟨n, vs, ms, y7, y8, y9, rfl, rfl, ⟨hs, hd, hl, hpv, hmm, hml, hmr⟩, hlt⟩ := hI
      have hvl : vs.length = (rm n).length := Paired.length hpv
      have nm : n ≤ 401 ∧ (row.joint = true → n ≤ most) := by
        by_cases z : n = 0
        · exact ⟨by omega, fun _ => by omega⟩
        · have h1 := hlt (n - 1) (by omega)
          cases hj : row.joint with
          | true =>
            have := h1.2 hj
            exact ⟨by omega, fun _ => by omega⟩
          | false =>
            have := few hj (n - 1)
            exact ⟨by omega, fun h => by cases h⟩
      refine ⟨.ref mm, rfl, mm, _, rfl, .inl (SqL.of hmm), .ref r, rfl, r, _, rfl, .inl (SqL.of hl), _, _, rfl, rfl, _, rfl, ?_⟩
      by_cases hn : n < (rm n).length
      · refine iteP (decide_eq_true (by omega)) ⟨_, fun σ' H' h => h, ?_⟩
        refine ⟨.ref r, rfl, r, _, rfl, .inl (SqL.of hl), iv most, rfl, _, _, rfl, rfl, _, rfl, ?_⟩
        refine and_join (fun H3 => Same H' H3 ∧ (rm n).length ≤ 400 ∧ (row.joint = true → (rm n).length ≤ most)) (fun H3 hN => ?_) (fun hb hgo => ?_) (fun hb => ?_)
        · obtain ⟨st, hle⟩ := hN
          have hs := hs.trans st
          have hd := hd.same (hd.kept st) st.tst
          have hl := st _ _ hl
          have hpv := Paired.mapP hpv fun _ _ z => z.ts st.tst
          have hmm := st _ _ hmm
          have hmr := fun j y e rr er => (hmr j y e rr er).tst st.tst
          clear st
          have er : (rm n)[n]? = some (rm n)[n] := List.getElem?_eq_getElem hn
          generalize hroom : (rm n)[n] = room at er
          have okroom := okr n room (List.mem_of_getElem? er)
          have nx1 : rm (n + 1) = pushAll (rm n) (g.succ k room) := it_some er
          have tkl : ∀ i, i < k → (g.succ k room).take (i + 1) = (g.succ k room).take i ++ [g.onw room i] := fun i hi => by
            rw [List.take_add_one]
            have : (g.succ k room)[i]? = some (g.onw room i) := by
              show ((List.range k).map (g.onw room))[i]? = _
              rw [List.getElem?_map, List.getElem?_range hi]
              rfl
            rw [this]
            rfl
          have sl : (g.succ k room).length = k := by
            show ((List.range k).map (g.onw room)).length = k
            rw [List.length_map, List.length_range]
          have curl : ∀ i, (pushAll (rm n) ((g.succ k room).take i)).length ≤ 1100 := fun i => by
            have h1 : (pushAll (rm n) ((g.succ k room).take i)).length ≤ (rm n).length + ((g.succ k room).take i).length := pushAll_len _ _
            rw [List.length_take] at h1
            omega
          have cur0 : ∀ i, (pushAll (rm n) ((g.succ k room).take i))[n]? = some room := fun i => by
            obtain ⟨tl, e⟩ := pushAll_pre (ts := (g.succ k room).take i) (rs := rm n)
            rw [← e, List.getElem?_append_left hn]
            exact er
          -- goals = []
          refine ⟨by show 0 ≤ sizeLine; decide, fun rw nrw => ?_⟩
          have nrwH := none_same hs nrw
          have nwr : rw ≠ r := (ne_of_none hl nrw).symm
          have nwm : rw ≠ mm := (ne_of_none hmm nrw).symm
          have nwp : rw ≠ p := fun e => hd.some' (by rw [← e]; exact nrw)
          -- for k in range(len(letters))
          refine ⟨.str ls, rfl, .str ls, ls.length, rfl, ⟨small' (by omega), rfl⟩, (k : Int), by rw [hkk], by omega, by omega, ?_⟩
          refine for_range (n := k) (fun i σ' H'' => ∃ vs' y8 y9, σ' = [some (.str ls), some (.ref pr), some (.ref l), some (iv most), some (.ref r), some (.ref p), some (.ref mm), some (.ref rw), y8, y9] ∧
              Same H H'' ∧ RDict P w H'' p (!row.joint) (idxD (pushAll (rm n) ((g.succ k room).take i))) ∧ H'' r = some (.lst vs') ∧ Paired (RmAt H'') vs' (pushAll (rm n) ((g.succ k room).take i)) ∧ H'' mm = some (.lst ms) ∧
              (∀ (j : Nat) (y : V), ms[j]? = some y → ∀ rr, (rm n)[j]? = some rr → NumsAt H'' y ((g.succ k rr).map (rm n).idxOf)) ∧
              H'' rw = some (.lst ((((g.succ k room).take i).map (pushAll (rm n) ((g.succ k room).take i)).idxOf).map iv)))
            ⟨vs, y8, y9, rfl, hs.upd nrwH, hd.same (upd_ne (Ne.symm nwp)) (Tst.new nrw), by rw [upd_ne (Ne.symm nwr)]; exact hl, Paired.mapP hpv fun _ _ z => z.ts (Tst.new nrw), by rw [upd_ne (Ne.symm nwm)]; exact hmm, fun j y e rr er => (hmr j y e rr er).tst (Tst.new nrw), upd_same⟩ (fun i σ' H'' hi hP => ?_) (fun σ' H'' hP => ?_)
          · obtain ⟨vs', z8, z9, rfl, hs2, hd2, hl2, hp2, hm2, hmr2, hw2⟩ := hP
            have z : (0 : Int) + (i : Int) = (i : Int) := Int.zero_add _
            rw [z]
            have nx2 : pushAll (rm n) ((g.succ k room).take (i + 1)) = push (pushAll (rm n) ((g.succ k room).take i)) (g.onw room i) := by rw [tkl i hi, pushAll_snoc]
            have cl := curl i
            have c0 := cur0 i
            have il : ((g.succ k room).take i).length = i := by rw [List.length_take]; omega
            have tk2 := tkl i hi
            have inn : ∀ t ∈ (g.succ k room).take i, t ∈ pushAll (rm n) ((g.succ k room).take i) := fun t ht => mem_pushAll.mpr (.inr ht)
            generalize hcur : pushAll (rm n) ((g.succ k room).take i) = cur at hd2 hl2 hp2 hw2 nx2 cl inn c0
            generalize hti : (g.succ k room).take i = ti at hw2 tk2 il inn
            generalize ht' : g.onw room i = t at nx2 tk2
            have okt : okR k made row t := ht' ▸ onw_ok hpt hf okroom i
            have oft : flat t = !row.joint := okR_flat okt
            have hvl2 : vs'.length = cur.length := Paired.length hp2
            obtain ⟨v, hv, hvr⟩ := paired_get hp2 n room c0
            refine ⟨.str ls, rfl, .ref pr, rfl, .ref l, rfl, .ref r, rfl, .ref mm, rfl, mm, _, rfl, .inl (SqL.of hm2), r, _, _, _, rfl, rfl, SqL.of hl2, atI_nat (by rw [hml]; exact hv), iv i, rfl, ls, .ref pr, l, row, made, v, room, i, rfl, hR.same hs2, hvr, by rw [hkk]; exact okroom, by omega, fun H3 u st3 hu => ?_⟩
            have hu : RmAt H3 u t := ht' ▸ hu
            have hd3 := hd2.same (hd2.kept st3) st3.tst
            have hl3 := st3 _ _ hl2
            have lk := look_idx cur t
            refine ⟨u, rfl, .ref p, rfl, p, _, _, t, rfl, hd3, hu, oft, _, rfl, ?_⟩
            refine ite_join (fun σ'' H4 => ∃ vs4, σ'' = [some (.str ls), some (.ref pr), some (.ref l), some (iv most), some (.ref r), some (.ref p), some (.ref mm), some (.ref rw), some (iv i), some u] ∧
              Same H H4 ∧ RDict P w H4 p (!row.joint) (idxD (push cur t)) ∧ H4 r = some (.lst vs4) ∧ Paired (RmAt H4) vs4 (push cur t) ∧ H4 mm = some (.lst ms) ∧ (∀ (j : Nat) (y : V), ms[j]? = some y → ∀ rr, (rm n)[j]? = some rr → NumsAt H4 y ((g.succ k rr).map (rm n).idxOf)) ∧ H4 rw = some (.lst ((ti.map cur.idxOf).map iv)) ∧ RmAt H4 u t) (fun σ'' H4 hN => ?_) (fun hb hN => ?_) (fun hb => ?_)
            · -- goals.append(numbers[room])
              obtain ⟨vs4, rfl, hs4, hd4, hl4, hp4, hm4, hmr4, hw4, hu4⟩ := hN
              have tin : t ∈ push cur t := mem_push.mpr (.inr rfl)
              have lk4 := look_idx (push cur t) t
              rw [if_pos tin] at lk4
              refine ⟨.ref rw, rfl, .inl ⟨rfl, _, SqL.of hw4⟩, .ref p, rfl, u, rfl, p, _, _, t, _, rfl, hd4, hu4, oft, lk4, rw, _, _, rfl, rfl, hw4, by rw [List.length_map, List.length_map, il]; exact small (by omega), ?_⟩
              have e4 : ((ti.map cur.idxOf).map iv) ++ [iv ((push cur t).idxOf t)] = (((ti ++ [t]).map (push cur t).idxOf).map iv) := by
                rw [List.map_append, List.map_append]
                congr 2
                exact List.map_congr_left fun x hx => (idxOf_pre push_pre (inn x hx)).symm
              have tw : Tst H4 (upd H4 rw (.lst (((ti.map cur.idxOf).map iv) ++ [iv ((push cur t).idxOf t)]))) := ts_lst hw4
              refine ⟨vs4, _, _, rfl, hs4.upd nrwH, ?_, by rw [upd_ne (Ne.symm nwr)]; exact hl4, ?_, by rw [upd_ne (Ne.symm nwm)]; exact hm4, fun j y e rr er => (hmr4 j y e rr er).tst tw, ?_⟩
              · rw [nx2]
                exact hd4.same (upd_ne (Ne.symm nwp)) tw
              · rw [nx2]
                exact Paired.mapP hp4 fun _ _ z => z.ts tw
              · rw [nx2, tk2, e4, upd_same]
            · -- a new room
              have tni : ¬ t ∈ cur := fun q => by
                rw [lk, if_pos q] at hb
                cases hb
              rw [if_neg tni] at lk
              refine ⟨.ref r, rfl, r, _, rfl, .inl (SqL.of hl3), .ref p, rfl, u, rfl, p, _, _, t, rfl, hd3, hu, oft, lk, by rw [idxD_len]; exact small (by omega), fun o2 d2 => ?_⟩
              have t4 : Tst H3 (upd H3 p o2) := Tst.upd hd3.notup
              have hl4 : (upd H3 p o2) r = some (.lst vs') := by rw [upd_ne (Ne.symm npr)]; exact hl3
              refine ⟨.ref r, rfl, .inl ⟨rfl, _, SqL.of hl4⟩, u, rfl, r, _, _, rfl, rfl, hl4, by rw [hvl2]; exact small (by omega), ?_⟩
              have t5 : Tst (upd H3 p o2) (upd (upd H3 p o2) r (.lst (vs' ++ [u]))) := ts_lst hl4
              refine hN _ _ ⟨_, rfl, ((hs2.trans st3).upd npH).upd nrH, ?_, upd_same, ?_, ?_, fun j y e rr er => (hmr2 j y e rr er).tst (st3.tst.trans (t4.trans t5)), ?_, hu.ts (t4.trans t5)⟩
              · rw [push_out tni, idxD_snoc, ← hvl2]
                exact d2.same (upd_ne npr) t5
              · rw [push_out tni]
                exact Paired.snoc (Paired.mapP hp2 fun _ _ z => z.ts (st3.tst.trans (t4.trans t5))) (hu.ts (t4.trans t5))
              · rw [upd_ne (Ne.symm nrm), upd_ne (Ne.symm npm)]
                exact st3 _ _ hm2
              · rw [upd_ne nwr, upd_ne nwp]
                exact st3 _ _ hw2
            · have tin : t ∈ cur := by
                by_cases q : t ∈ cur
                · exact q
                · rw [lk, if_neg q] at hb
                  cases hb
              refine ⟨vs', rfl, hs2.trans st3, ?_, hl3, ?_, st3 _ _ hm2, fun j y e rr er => (hmr2 j y e rr er).tst st3.tst, st3 _ _ hw2, hu⟩
              · rw [push_in tin]
                exact hd3
              · rw [push_in tin]
                exact Paired.mapP hp2 fun _ _ z => z.ts st3.tst
          · -- moves.append(tuple(goals))
            obtain ⟨vs', z8, z9, rfl, hs2, hd2, hl2, hp2, hm2, hmr2, hw2⟩ := hP
            rw [show (g.succ k room).take k = g.succ k room from List.take_of_length_le (Nat.le_of_eq sl), ← nx1] at hd2 hp2 hw2
            refine ⟨.ref mm, rfl, .inl ⟨rfl, _, SqL.of hm2⟩, .ref rw, rfl, rw, _, rfl, .inl ⟨SqL.of hw2, fun tt ntt => ?_⟩⟩
            have nmt : mm ≠ tt := ne_of_none hm2 ntt
            have nrt : r ≠ tt := ne_of_none hl2 ntt
            have npt : p ≠ tt := fun e => hd2.some' (by rw [e]; exact ntt)
            have hm3 : (upd H'' tt (.tup (((g.succ k room).map (rm (n + 1)).idxOf).map iv))) mm = some (.lst ms) := by rw [upd_ne nmt]; exact hm2
            refine ⟨mm, _, _, rfl, rfl, hm3, by rw [hml]; exact small (by omega), ?_⟩
            have t3 : Tst H'' (upd H'' tt (.tup (((g.succ k room).map (rm (n + 1)).idxOf).map iv))) := Tst.new ntt
            have t4 : Tst (upd H'' tt (.tup (((g.succ k room).map (rm (n + 1)).idxOf).map iv))) (upd (upd H'' tt (.tup (((g.succ k room).map (rm (n + 1)).idxOf).map iv))) mm (.lst (ms ++ [.ref tt]))) := ts_lst hm3
            have t5 := t3.trans t4
            refine ⟨1000 - (n + 1), by omega, n + 1, vs', ms ++ [.ref tt], _, _, _, rfl, rfl, ⟨(hs2.trans (Same.new ntt)).upd nmmH, ?_, ?_, ?_, upd_same, by rw [List.length_append, hml]; rfl, fun jj y e rr er2 => ?_⟩, fun jj hj => ?_⟩
            · exact (hd2.same (upd_ne npt) t3).same (upd_ne npm) t4
            · rw [upd_ne nrm, upd_ne nrt]
              exact hl2
            · exact Paired.mapP hp2 fun _ _ z => z.ts t5
            · by_cases hjn : jj < n
              · rw [List.getElem?_append_left (by rw [hml]; exact hjn)] at e
                have er3 : (rm n)[jj]? = some rr := by
                  have hjl : jj < (rm n).length := by omega
                  have := it_at (succ := g.succ k) (a := g.first) (Nat.le_succ n) (List.getElem?_eq_getElem hjl)
                  have er2 : (it (g.succ k) g.first (n + 1))[jj]? = some rr := er2
                  rw [this] at er2
                  rw [← er2]
                  exact List.getElem?_eq_getElem hjl
                have q := (hmr2 jj y e rr er3).tst t5
                have : (g.succ k rr).map (rm (n + 1)).idxOf = (g.succ k rr).map (rm n).idxOf := List.map_congr_left fun x hx => idxOf_pre (it_pre1 n) (it_done hjn er3 hx)
                rw [this]
                exact q
              · have hjn2 : jj = n := by
                  have := (List.getElem?_eq_some_iff.mp e).1
                  rw [List.length_append, List.length_singleton, hml] at this
                  omega
                subst hjn2
                rw [List.getElem?_append_right (by omega), hml, Nat.sub_self] at e
                cases e
                have er2' := it_at (succ := g.succ k) (a := g.first) (Nat.le_succ jj) er
                have er2 : (it (g.succ k) g.first (jj + 1))[jj]? = some rr := er2
                rw [er2'] at er2
                cases er2
                exact ⟨tt, rfl, by rw [upd_ne (Ne.symm nmt), upd_same]⟩
            · by_cases q : jj = n
              · rw [q]; exact ⟨hn, hle.2⟩
              · exact hlt jj (by omega)
        · have hbig : most < (rm n).length := by
            have := of_decide_eq_true hb
            rw [hvl] at this
            omega
          refine ⟨.ref pr, rfl, pr, _, _, _, rfl, rfl, SqT.of (hrowAt _ hs), (atI_nat wdR_0), by show 3 ≤ sizeLine; decide, fun t nt => ⟨t, _, rfl, .inr (SqT.of upd_same), rfl, rfl, _, rfl, ?_⟩⟩
          have st : Same H' (upd H' t (.tup [.str "or", .str "and", .str "behind"])) := Same.new nt
          rcases Bool.eq_false_or_eq_true row.joint with hj | hj
          · refine iteP (by show inV _ _ = true; rw [← hj]; exact wdR_in) (qN ?_ _ (hs.trans st))
            unfold over
            rw [hj, Bool.true_and]
            refine decide_eq_true (Nat.lt_of_lt_of_le hbig ?_)
            exact it_len_mono (nm.2 hj)
          · exact iteN (by show inV _ _ = false; rw [← hj]; exact wdR_in) (hgo _ ⟨st, by have := few hj n; omega, fun h => by rw [hj] at h; cases h⟩)
        · have hsm : ¬ most < (rm n).length := by
            have := of_decide_eq_false hb
            rw [hvl] at this
            omega
          exact ⟨Same.refl _, by omega, fun _ => by omega⟩
      · refine iteN (decide_eq_false (by omega)) ?_
        have nn : n = (rm n).length := by
          have h1 : (rm (n - 1)).length ≤ (rm n).length := it_len_mono (by omega)
          by_cases z : n = 0
          · have := it_pos (succ := g.succ k) (a := g.first) n
            have : 0 < (rm n).length := this
            omega
          · have := (hlt (n - 1) (by omega)).1
            omega
        have ho : over k made most row = false := by
          unfold over
          cases hj : row.joint with
          | false => rfl
          | true =>
            rw [Bool.true_and]
            have e : (gr made row).rooms k most = rm n := it_stop (Nat.not_lt.mp hn) (nm.2 hj)
            rw [e]
            exact decide_eq_false (by have := nm.2 hj; omega)
        have en : (gr made row).rooms k far = rm n := it_stop (Nat.not_lt.mp hn) (by unfold far; omega)
        have egm : grownM k made row = g.mc k (rm n) := by
          unfold grownM
          rw [en]
        refine ⟨.str ls, rfl, .ref mm, rfl, mm, _, rfl, .inl ⟨SqL.of hmm, fun t6 nt6 => ?_⟩⟩
        have hl6 : (upd H' t6 (.tup ms)) r = some (.lst vs) := by rw [upd_ne (ne_of_none hl nt6)]; exact hl
        have s6 : Same H (upd H' t6 (.tup ms)) := hs.trans (Same.new nt6)
        refine ⟨.ref r, rfl, r, rfl, ⟨_, SqL.of hl6⟩, fun D8 hD8 => ?_⟩
        refine lc_of_list (xs := vs) (fun j v _ => ∀ t, (rm n)[j]? = some t → v = .bl (g.isY t)) (fun i v H1 H2 h st r e => h r e) hD8 (fun H8 st8 => SqL.of (st8 _ _ hl6)) (by rw [hvl]; exact small' (by omega)) (fun i v hi => ?_) (fun H8 zs st8 hD8l hzl8 hzs8 => ?_)
        · intro H8 R S st8 hR8
          obtain ⟨t, ht, hvt⟩ := paired_getL hpv i v hi
          have st9 := (Same.new nt6).trans st8
          refine ⟨rfl, ?_⟩
          refine ⟨.ref pr, rfl, .ref l, rfl, v, rfl, ls, .ref pr, l, row, made, v, t, rfl, hR.same (hs.trans st9), hvt.ts st9.tst, by rw [hkk]; exact okr n t (List.mem_of_getElem? ht), fun H9 st10 => hR8 _ _ st10 fun t' e => ?_⟩
          rw [ht] at e
          cases e
          rfl
        · have ezs : zs = ((rm n).map g.isY).map V.bl := by
            rw [List.map_map]
            exact all_map (f := fun r => V.bl (g.isY r)) (by rw [hzl8, hvl]) hzs8
          rw [ezs] at hD8l
          refine ⟨D8, _, rfl, .inl ⟨SqL.of hD8l, fun t8 nt8 => ?_⟩⟩
          refine ⟨by show 3 ≤ sizeLine; decide, fun p9 np9 => ?_⟩
          have st9 : Same (upd H' t6 (.tup ms)) (upd (upd H8 t8 (.tup (((rm n).map g.isY).map V.bl))) p9 (.tup [.str ls, .ref t6, .ref t8])) := st8.trans ((Same.new nt8).trans (Same.new np9))
          have ne9 : t8 ≠ p9 := fun e => by
            rw [← e, upd_same] at np9
            cases np9
          refine qT ho _ (.ref p9) (s6.trans st9) ⟨p9, .ref t6, .ref t8, rfl, upd_same, ?_, ?_⟩
          · rw [egm]
            refine ⟨t6, ms, rfl, st9 _ _ upd_same, paired_of ?_ fun j a b ea eb => ?_⟩
            · rw [hml, Gr.mc_len]
              exact nn
            · have eb : ((rm n).map fun r => (g.succ k r).map fun t => (rm n).idxOf t)[j]? = some b := eb
              rw [List.getElem?_map] at eb
              obtain ⟨rr, hr', rfl⟩ := Option.map_eq_some_iff.mp eb
              exact (hmr j a ea rr hr').tst ((Same.new nt6).trans st9).tst
          · rw [egm]
            exact ⟨t8, rfl, by rw [upd_ne ne9, upd_same]; rfl⟩
end
end Cw
set_option Elab.async false
set_option linter.all false
set_option maxRecDepth 100000
set_option maxHeartbeats 8000000
/-! _law_made, _law_refused_at -/
namespace Cw
open PySem PySem.Spec PyProof.Rows L2 Kw NdefX LamX
section
variable {P : Program} {w : World} {K : PySem.W.Frag} {mg : Str → Option Value} {base : Heap}
def spLMade (T : List NTab) : Sp := fun vs H Q E => ∃ (ls : Str) (x : V) (most : Nat) (rows : List Kw.Row), vs = [.str ls, x, iv most] ∧ RowsAt ls.cps.toList H x rows ∧ Fits ls.length 0 rows ∧ rows ≠ [] ∧ rows.length ≤ 1000 ∧
  (∀ i ms, build ls.length most [] (rows.take i) = .ok ms → Kw.Parts ls.length 60 ms) ∧ ls.cps.toList.Nodup ∧ 0 < ls.length ∧ ls.length ≤ 100 ∧ most ≤ 400 ∧ TabsN T H ∧
  (∀ n, build ls.length most [] rows = .error n → ∀ H', ExtN H H' → TabsN T H' → Q (iv n) H') ∧ (∀ ms, build ls.length most [] rows = .ok ms → ∀ H' v, ExtN H H' → TabsN T H' → McAt H' v ls (Kw.part ms (rows.length - 1)) → Q v H')
theorem ok_lmade {B C fI f fM : Addr} {fd fdM : FuncData} {T : List NTab} (F : Fun K "_law_made" "_law_made" sLMade f fd) (t : TmTxt K mg B C fI)
    (GM : FnOk P w K mg base (L2.CX P w) 7 fM fdM ["letters", "expression", "most"] (spMOf C T)) (kM : PySem.W.keepIn K (.ref fM) = true) (bM : Binds K fdM ["letters", "expression", "most"] []) (gM : mg "machine_of" = some (.ref fM)) :
    FnOk P w K mg base CX0 8 f fd ["_law_letters_here", "_law_rows", "_law_most"] (spLMade T) := by
  refine F.ok scLMade (fun vs H Q E h => ?_) (fun cdv A outer s H vs Q E hr h => ?_)
  · obtain ⟨ls, x, most, rows, rfl, _⟩ := h
    rfl
  · obtain ⟨ls, x, most, rows, rfl, hx, hf, hne, hlen, hpt, hnd, hk0, hk, hmo, hT, qE, qT⟩ := h
    have nd := scLMade.nd
    refine ⟨_, pss_cons (ps_try_as (i := 4) (tb := fun W => tAsg (tCallS (spMOf C T) (WE W) (tCons (tVar 0) (tCons (tVar 1) (tCons (tVar 2) tNil)))) (gName 3)) (ts := fun a cls d => tAsg (tXf a cls d C "at" (tVar 4)) (gName 3)) (Wout := fun _ _ _ _ => False) rfl rfl nd rfl rfl ⟨rfl, by decide, .inl t.gC⟩ L2.takes0
          (fun W pn xe tk _ => pss_one (ps_set (i := 3) nd rfl (.inl rfl) (pe_callS GM hr (by rfl) gM kM bM (fun σ => passAt tk σ) (pa_cons (pv 0) (pa_cons (pv 1) (pa_cons (pv 2) pa_nil))))))
          (fun a oe cls d pn hz hf => pss_one (ps_set (i := 3) nd rfl (.inl rfl) (pe_xf t.xf t.noAt hz hf (pv 4)))))
      (pss_one (ps_ret (pv 3))), ?_⟩
    refine ⟨.str ls, rfl, x, rfl, iv most, rfl, ls, x, most, rows, rfl, hx, hf, hne, hlen, hpt, hnd, hk0, hk, hmo, hT, fun n hb => ?_, fun ms hb H' v e1 T1 hv => ?_⟩
    · intro H' d e1 T1 hd
      refine ⟨true, t.te, fun _ a na => ?_, fun z => nomatch z⟩
      exact ⟨.ref a, rfl, rfl, rfl, d, _, iv n, rfl, hd, rfl, iv n, rfl, qE n hb H' e1 T1⟩
    · exact ⟨v, rfl, qT ms hb H' v e1 T1 hv⟩
end
end Cw
set_option Elab.async false
set_option linter.all false
set_option maxRecDepth 100000
set_option maxHeartbeats 8000000
/-! _law_refused_at, _law_is_machine, _law_alike -/
namespace Cw
open PySem PySem.Spec PyProof.Rows L2 Kw
theorem bIsi : bootBuiltins "isinstance" = some (.builtin "isinstance") := by decide +kernel
theorem bBool : bootBuiltins "bool" = some (.type "bool") := by decide +kernel
theorem relTy (n : String) : RelV (.ty n) (.type n) := rfl
theorem isK {X : Cx} (K : PySem.W.Frag) (h : X.K = K := by rfl) : CallR X (.builtin "isinstance") (rIsi K) := by
  subst h
  exact call_isi
section
variable {P : Program} {w : World} {K : PySem.W.Frag} {mg : Str → Option Value} {base : Heap}
def spLRef : Sp := fun vs H Q _ => ∃ n : Nat, vs = [iv n, iv n] ∧ Q (.bl true) H
theorem ok_lref {f : Addr} {fd : FuncData} (F : Fun K "_law_refused_at" "_law_refused_at" sLRefusedAt f fd) (misi : mg "isinstance" = none) (mint : mg "int" = none) (mbool : mg "bool" = none) : FnOk P w K mg base CX0 1 f fd ["_law_found", "_law_at"] spLRef := by
  refine F.ok scLRefusedAt (fun vs H Q E h => ?_) (fun cdv A outer s H vs Q E hr h => ?_)
  · obtain ⟨n, rfl, _⟩ := h
    rfl
  · obtain ⟨n, rfl, q⟩ := h
    have nd := scLRefusedAt.nd
    refine ⟨_, pss_one (ps_ret (pe_and (pe_callB call_isi (by rfl) misi bIsi (pa_cons (pv 0) (pa_cons (pe_bltn (by rfl) mint bInt (relTy _)) pa_nil))) (pe_and (pe_not (pe_callB call_isi (by rfl) misi bIsi (pa_cons (pv 0) (pa_cons (pe_bltn (by rfl) mbool bBool (relTy _)) pa_nil)))) (pe_one (pe_cmpR op_eq (pv 0) (pv 1) (nomark _)))))), ?_⟩
    refine ⟨iv n, rfl, _, _, .type "int", .type "int", true, rfl, .ty _, .base (.int _), kit_ty (by decide +kernel), true, rfl, iteP rfl ?_⟩
    refine ⟨iv n, rfl, _, _, .type "int", .type "bool", false, rfl, .ty _, .base (.int _), kit_ty (by decide +kernel), false, rfl, true, rfl, iteP rfl ?_⟩
    refine ⟨iv n, rfl, iv n, rfl, rfl, ?_⟩
    rw [decide_eq_true rfl]
    exact q
def spLIs : Sp := fun vs H Q _ => ∃ (x : V) (ls : Str) (m : Mc), vs = [x, .str ls] ∧ McAt H x ls m ∧ m.Valid ls.length ∧ ls.length ≤ 100 ∧ m.mv.length ≤ 1000 ∧ ∀ H', Same H H' → Q (.bl true) H'
theorem ok_lis {f : Addr} {fd : FuncData} (F : Fun K "_law_is_machine" "_law_is_machine" sLIsMachine f fd) (misi : mg "isinstance" = none) (mint : mg "int" = none) (mbool : mg "bool" = none) (mtup : mg "tuple" = none) (mlen : mg "len" = none) (mall : mg "all" = none) : FnOk P w K mg base CX0 1 f fd ["_law_machine", "_law_letters_here"] spLIs := by
  refine F.ok scLIsMachine (fun vs H Q E h => ?_) (fun cdv A outer s H vs Q E hr h => ?_)
  · obtain ⟨x, ls, m, rfl, _⟩ := h
    rfl
  · obtain ⟨x, ls, m, rfl, ⟨p0, a0, b0, rfl, hp0, ha0, hb0⟩, hv, hk, hz, q⟩ := h
    have nd := scLIsMachine.nd
    refine ⟨_, pss_cons (ps_if (PW.pt (pw_or (pt_not (pt_val (pe_callB call_isi (by rfl) misi bIsi (pa_cons (pv 0) (pa_cons (pe_bltn (by rfl) mtup bTuple (relTy _)) pa_nil))))) (pw_or (pt_cmpR op_ne (pe_callB call_len_seq (by rfl) mlen PySem.boot_len (pa_cons (pv 0) pa_nil)) (pe_int) (nomark _)) (pw_or1 (pt_cmpR op_ne (pe_ix ix_tup (pv 0) (pe_int) (fun _ _ => rfl)) (pv 1) (nomark _)))))) (pss_one (ps_ret pe_bl)) pss_nil)
      (pss_cons (ps_par (i := 2) (j := 3) rfl nd rfl rfl (by decide) rfl rfl (pa_cons (pe_ix ix_tup (pv 0) (pe_int) (fun _ _ => rfl)) (pa_cons (pe_ix ix_tup (pv 0) (pe_int) (fun _ _ => rfl)) pa_nil)) (by rfl))
      (pss_cons (ps_if (PW.pt (pw_or (pt_not (pt_val (pe_callB call_isi (by rfl) misi bIsi (pa_cons (pv 2) (pa_cons (pe_bltn (by rfl) mtup bTuple (relTy _)) pa_nil))))) (pw_or (pt_not (pt_val (pe_callB call_isi (by rfl) misi bIsi (pa_cons (pv 3) (pa_cons (pe_bltn (by rfl) mtup bTuple (relTy _)) pa_nil))))) (pw_or1 (pt_not (pt_chain op_lt op_eq pe_int (pe_callB call_len_seq (by rfl) mlen PySem.boot_len (pa_cons (pv 2) pa_nil)) (pe_callB call_len_seq (by rfl) mlen PySem.boot_len (pa_cons (pv 3) pa_nil)))))))) (pss_one (ps_ret pe_bl)) pss_nil)
      (pss_cons (ps_for PassesOwn.never rfl (pi_tup (pv 2)) (pg_name (i := 4) nd rfl (by first | exact Or.inl rfl | exact Or.inr rfl))
      (pss_cons (ps_if (PW.pt (pw_or (pt_not (pt_val (pe_callB call_isi (by rfl) misi bIsi (pa_cons (pv 4) (pa_cons (pe_bltn (by rfl) mtup bTuple (relTy _)) pa_nil))))) (pw_or1 (pt_cmpR op_ne (pe_callB call_len_seq (by rfl) mlen PySem.boot_len (pa_cons (pv 4) pa_nil)) (pe_callB (lenV K) (by rfl) mlen PySem.boot_len (pa_cons (pv 1) pa_nil)) (nomark _))))) (pss_one (ps_ret pe_bl)) pss_nil)
      (pss_one (ps_for PassesOwn.never rfl (pi_tup (pv 4)) (pg_name (i := 5) nd rfl (by first | exact Or.inl rfl | exact Or.inr rfl))
      (pss_one (ps_if (PW.pt (pw_or (pt_not (pt_val (pe_callB call_isi (by rfl) misi bIsi (pa_cons (pv 5) (pa_cons (pe_bltn (by rfl) mint bInt (relTy _)) pa_nil))))) (pw_or (pt_val (pe_callB call_isi (by rfl) misi bIsi (pa_cons (pv 5) (pa_cons (pe_bltn (by rfl) mbool bBool (relTy _)) pa_nil)))) (pw_or1 (pt_not (pt_chain op_le op_lt pe_int (pv 5) (pe_callB call_len_seq (by rfl) mlen PySem.boot_len (pa_cons (pv 2) pa_nil)))))))) (pss_one (ps_ret pe_bl)) pss_nil))))))
      (pss_one (ps_ret (pe_callB (cr_all rfl) (by rfl) mall bAll (pa_cons (pe_lc (own := [("_law_one", 6)]) (g := gName 6) (tt := tYes) rfl nd (piT K (pv 3)) (blkOk_by (own := [("_law_one", 6)]) (N := nLIsMachine) (sc := (defScope sLIsMachine)) (by decide +kernel)) (fun _ _ _ _ _ => pg_name (i := 6) nd rfl (Or.inl rfl)) (fun _ _ _ _ _ => pts_nil) (fun _ _ _ _ _ => pe_callB (isK K) (by rfl) misi bIsi (pa_cons (pv 6) (pa_cons (pe_bltn (by rfl) mbool bBool (relTy _)) pa_nil)))) pa_nil))))))), ?_⟩
    obtain ⟨pa, vs, rfl, hpa, hvl, hrow⟩ := ha0.row
    obtain ⟨pb, rfl, hpb⟩ := hb0
    have yl : m.ys.length = m.mv.length := hv.len
    have pos := hv.pos
    refine ⟨.ref p0, rfl, _, _, .type "tuple", .type "tuple", true, rfl, .ty _, .base (.tup hp0), kit_ty (by decide +kernel), _, rfl, iteN rfl ?_⟩
    refine ⟨.ref p0, rfl, p0, _, rfl, .inr (SqT.of hp0), rfl, _, rfl, iteN (by show (!decide (V.int 3 = V.int 3)) = false; decide) ?_⟩
    refine ⟨.ref p0, rfl, p0, _, _, _, rfl, rfl, SqT.of hp0, (atI_nat (j := 0) rfl), .str ls, rfl, rfl, _, rfl, iteN (by rw [decide_eq_true rfl]; rfl) ?_⟩
    refine ⟨.ref p0, rfl, p0, _, _, _, rfl, rfl, SqT.of hp0, (atI_nat (j := 1) rfl), .ref p0, rfl, p0, _, _, _, rfl, rfl, SqT.of hp0, (atI_nat (j := 2) rfl), _, _, rfl, ?_⟩
    refine ⟨.ref pa, rfl, _, _, .type "tuple", .type "tuple", true, rfl, .ty _, .base (.tup hpa), kit_ty (by decide +kernel), _, rfl, iteN rfl ?_⟩
    refine ⟨.ref pb, rfl, _, _, .type "tuple", .type "tuple", true, rfl, .ty _, .base (.tup hpb), kit_ty (by decide +kernel), _, rfl, iteN rfl ?_⟩
    refine ⟨.ref pa, rfl, pa, _, rfl, .inr (SqT.of hpa), _, _, rfl, rfl, _, rfl, iteP (decide_eq_true (by omega)) ⟨.ref pb, rfl, pb, _, rfl, .inr (SqT.of hpb), rfl, _, rfl, iteN ?_ ?_⟩⟩
    · rw [decide_eq_true (by rw [List.length_map, hvl, yl])]
      rfl
    refine ⟨.ref pa, rfl, pa, rfl, ⟨_, SqT.of hpa⟩, ?_⟩
    refine for_tup (xs := vs) (fun i σ' H' => ∃ y4 y5, σ' = [some (.ref p0), some (.str ls), some (.ref pa), some (.ref pb), y4, y5, none] ∧ H' = H) ⟨none, none, rfl, rfl⟩ (fun i σ' H' _ hP => ?_) (fun i v σ' H' hi hP => ?_) (fun σ' H' hP => ?_)
    · obtain ⟨_, _, _, rfl⟩ := hP
      exact SqT.of hpa
    · obtain ⟨y4, y5, rfl, rfl⟩ := hP
      have il := (List.getElem?_eq_some_iff.mp hi).1
      rw [hvl] at il
      obtain ⟨q1, e1, h1⟩ := hrow i _ (mv_get (m := m) (r := i) il)
      rw [e1] at hi
      cases hi
      have sl : (m.succ i).length = ls.length := Mc.succ_len hv il
      refine ⟨.ref q1, rfl, _, _, .type "tuple", .type "tuple", true, rfl, .ty _, .base (.tup h1), kit_ty (by decide +kernel), _, rfl, iteN rfl ?_⟩
      refine ⟨.ref q1, rfl, q1, _, rfl, .inr (SqT.of h1), .str ls, rfl, .str ls, ls.length, rfl, ⟨small' (by omega), rfl⟩, rfl, _, rfl, iteN ?_ ?_⟩
      · rw [decide_eq_true (by rw [List.length_map, sl])]
        rfl
      refine ⟨.ref q1, rfl, q1, rfl, ⟨_, SqT.of h1⟩, ?_⟩
      refine for_tup (xs := (m.succ i).map iv) (fun j σ' H2 => ∃ y5, σ' = [some (.ref p0), some (.str ls), some (.ref pa), some (.ref pb), some (.ref q1), y5, none] ∧ H2 = H') ⟨y5, rfl, rfl⟩ (fun j σ' H' _ hP => ?_) (fun j v σ' H' hj hP => ?_) (fun σ' H' hP => ?_)
      · obtain ⟨_, _, rfl⟩ := hP
        exact SqT.of h1
      · obtain ⟨y5', rfl, rfl⟩ := hP
        rw [List.getElem?_map] at hj
        obtain ⟨t, ht, rfl⟩ := Option.map_eq_some_iff.mp hj
        have tl := Mc.succ_lt hv (List.mem_of_getElem? ht)
        refine ⟨iv t, rfl, _, _, .type "int", .type "int", true, rfl, .ty _, .base (.int _), kit_ty (by decide +kernel), _, rfl, iteN rfl ?_⟩
        refine ⟨iv t, rfl, _, _, .type "int", .type "bool", false, rfl, .ty _, .base (.int _), kit_ty (by decide +kernel), _, rfl, iteN rfl ?_⟩
        refine ⟨iv t, rfl, _, _, rfl, rfl, _, rfl, iteP (decide_eq_true (by omega)) ⟨.ref pa, rfl, pa, _, rfl, .inr (SqT.of hpa), _, _, rfl, rfl, _, rfl, iteN ?_ ?_⟩⟩
        · rw [decide_eq_true (by rw [hvl]; omega)]
          rfl
        exact ⟨_, rfl, rfl⟩
      · obtain ⟨y5', rfl, rfl⟩ := hP
        exact ⟨_, _, rfl, rfl⟩
    · obtain ⟨y4, y5, rfl, rfl⟩ := hP
      refine ⟨.ref pb, rfl, pb, rfl, ⟨_, SqT.of hpb⟩, fun D hD => ?_⟩
      refine lc_of_tup (xs := m.ys.map V.bl) (fun j v _ => v = .bl true) (fun i v _ _ h _ => h) hD (fun H7 st7 => SqT.of (st7 _ _ hpb)) (by rw [List.length_map]; exact small' (by omega)) (fun j v hj => ?_) (fun H7 ys st7 hD7l hyl7 hys7 => ?_)
      · intro H7 R' S' st7 hR'
        rw [List.getElem?_map] at hj
        obtain ⟨b, hb, rfl⟩ := Option.map_eq_some_iff.mp hj
        refine ⟨rfl, ?_⟩
        exact ⟨.bl b, rfl, _, _, .type "bool", .type "bool", true, rfl, .ty _, .base (.bl _), kit_ty (by decide +kernel), hR' _ _ (Same.refl _) rfl⟩
      · have eys : ys = (List.replicate ys.length true).map V.bl := by
          refine List.ext_getElem (by simp) fun i h1 h2 => ?_
          rw [List.getElem_map, List.getElem_replicate]
          exact hys7 i _ (List.getElem?_eq_getElem h1)
        rw [eys] at hD7l
        refine ⟨D, _, rfl, SqL.of hD7l, ?_⟩
        have e : (List.replicate ys.length true).all id = true := List.all_eq_true.mpr fun x hx => by rw [List.eq_of_mem_replicate hx]; rfl
        rw [e]
        exact q H7 st7
def spLAlike : Sp := fun vs H Q _ => ∃ (x y : V) (ls : Str) (f g : Mc) (h : Nat → Nat) (k : Nat), vs = [x, y] ∧ McAt H x ls f ∧ McAt H y ls g ∧ f.Valid k ∧ g.Valid k ∧ g.come = List.range g.mv.length ∧ Mc.Alike f g h ∧ k ≤ 100 ∧ f.mv.length ≤ 1000 ∧ g.mv.length ≤ 1000 ∧ ∀ H', Same H H' → Q (.bl true) H'
theorem putK_cls (h : Nat → Nat) (L : List Nat) (t : Nat) : putK (clsD L h) (.inl (t : Int)) (iv (h t)) = clsD (push L t) h := by
  by_cases e : t ∈ L
  · rw [push_in e]
    unfold putK
    have : ((clsD L h).any fun kv => decide (kv.1 = (.inl (t : Int) : L2.Key))) = true := List.any_eq_true.mpr ⟨(.inl (t : Int), iv (h t)), List.mem_map_of_mem e, decide_eq_true rfl⟩
    rw [if_pos this]
    unfold clsD
    rw [List.map_map]
    refine List.map_congr_left fun i _ => ?_
    show (if (.inl (i : Int) : L2.Key) = .inl (t : Int) then ((.inl (i : Int) : L2.Key), iv (h t)) else (.inl (i : Int), iv (h i))) = (.inl (i : Int), iv (h i))
    by_cases z : i = t
    · subst z
      rw [if_pos rfl]
    · rw [if_neg fun y => z (Int.ofNat_inj.mp (Sum.inl.inj y))]
  · rw [push_out e]
    rw [putK_new _ (by rw [look_cls, if_neg e])]
    unfold clsD
    rw [List.map_append]
    rfl
theorem ok_lalike {f : Addr} {fd : FuncData} (F : Fun K "_law_alike" "_law_alike" sLAlike f fd) (mlen : mg "len" = none) (mrng : mg "range" = none) (menum : mg "enumerate" = none) : FnOk P w K mg base CX0 1 f fd ["_law_machine", "_law_grown_here"] spLAlike := by
  refine F.ok scLAlike (fun vs H Q E h => ?_) (fun cdv A outer s H vs Q E hr h => ?_)
  · obtain ⟨x, y, ls, f, g, h, k, rfl, _⟩ := h
    rfl
  · obtain ⟨x, y, ls, fm, gm, h, k, rfl, ⟨p0, a0, b0, rfl, hp0, ha0, hb0⟩, ⟨p1, a1, b1, rfl, hp1, ha1, hb1⟩, vf, vg, ho, al, hk, hzf, hzg, q⟩ := h
    have nd := scLAlike.nd
    have hu := hu_of hr
    refine ⟨_, pss_cons (ps_set (i := 2) nd rfl (by first | exact Or.inl rfl | exact Or.inr rfl) (pe_rdisp true hr pe_int pe_int))
      (pss_cons (ps_for PassesOwn.never rfl (pi_range1 (by rfl) mrng (pa_cons (pe_callB call_len_seq (by rfl) mlen PySem.boot_len (pa_cons (pe_ix ix_tup (pv 1) (pe_int) (fun _ _ => rfl)) pa_nil)) pa_nil)) (pg_name (i := 3) nd rfl (by first | exact Or.inl rfl | exact Or.inr rfl))
      (pss_cons (ps_if (pt_cmpR op_ne (pe_ix ix_tup (pe_ix ix_tup (pv 0) (pe_int) (fun _ _ => rfl)) (pe_dget hu (pv 2) (pv 3) (fun _ _ => rfl)) (fun _ _ => rfl)) (pe_ix ix_tup (pe_ix ix_tup (pv 1) (pe_int) (fun _ _ => rfl)) (pv 3) (fun _ _ => rfl)) (nomark _)) (pss_one (ps_ret pe_bl)) (pss_nil))
      (pss_one (ps_for PassesOwn.never rfl (pi_enumT (by rfl) menum (pa_cons (pe_ix ix_tup (pe_ix ix_tup (pv 1) (pe_int) (fun _ _ => rfl)) (pv 3) (fun _ _ => rfl)) pa_nil)) (pg_tup (by rfl) (pgs_cons (pg_name (i := 4) nd rfl (by first | exact Or.inl rfl | exact Or.inr rfl)) (pgs_cons (pg_name (i := 5) nd rfl (by first | exact Or.inl rfl | exact Or.inr rfl)) pgs_nil)))
      (pss_cons (ps_set (i := 6) nd rfl (by first | exact Or.inl rfl | exact Or.inr rfl) (pe_ix ix_tup (pe_ix ix_tup (pe_ix ix_tup (pv 0) (pe_int) (fun _ _ => rfl)) (pe_dget hu (pv 2) (pv 3) (fun _ _ => rfl)) (fun _ _ => rfl)) (pv 4) (fun _ _ => rfl)))
      (pss_cons (ps_if (pt_cmpR op_ne (pe_dget2 hu (pv 2) (pv 5) (pv 6) ⟨rfl, rfl, rfl, rfl⟩) (pv 6) (nomark _)) (pss_one (ps_ret pe_bl)) (pss_nil))
      (pss_one (ps_dput hu (pv 2) (pv 5) (pv 6) rfl))))))))
      (pss_one (ps_ret pe_bl))), ?_⟩
    obtain ⟨pa, vs, rfl, hpa, hvl, hrow⟩ := ha0.row
    obtain ⟨pb, rfl, hpb⟩ := hb0
    obtain ⟨pa1, vs1, rfl, hpa1, hvl1, hrow1⟩ := ha1.row
    obtain ⟨pb1, rfl, hpb1⟩ := hb1
    refine fun d nd0 => ⟨upd_same, .one 0, rfl, rfl, fun o D0 => ?_⟩
    have eo : upd (upd H d (.dK [])) d o = upd H d o := by
      funext b
      by_cases z : b = d
      · subst z
        rw [upd_same, upd_same]
      · rw [upd_ne z, upd_ne z, upd_ne z]
    rw [eo] at D0 ⊢
    have hd0 : (upd H d o) d = some (.dK (clsD [0] h)) := by
      have := D0.1
      rw [this]
      show some (HO.dK [((.inl ((0 : Nat) : Int) : L2.Key), V.int 0)]) = some (HO.dK [((.inl ((0 : Nat) : Int) : L2.Key), iv (h 0))])
      rw [al.zero]
      rfl
    have s0 : Same H (upd H d o) := Same.new nd0
    generalize upd H d o = H0 at hd0 s0
    refine ⟨.ref p1, rfl, p1, _, _, _, rfl, rfl, SqT.of (s0 _ _ hp1), (atI_nat (j := 1) rfl), pa1, _, rfl, .inr (SqT.of (s0 _ _ hpa1)), (gm.mv.length : Int), by rw [hvl1], by omega, by omega, ?_⟩
    let Lk : Nat → List Nat → Prop := fun i L => 0 ∈ L ∧ L.Nodup ∧ (∀ t ∈ L, t < gm.mv.length) ∧ ∀ j < i, ∀ t ∈ gm.succ j, t ∈ L
    refine for_range (n := gm.mv.length) (fun i σ' H' => ∃ (L : List Nat) (y3 y4 y5 y6 : Option V), σ' = [some (.ref p0), some (.ref p1), some (.ref d), y3, y4, y5, y6] ∧ Same H H' ∧ H' d = some (.dK (clsD L h)) ∧ Lk i L)
      ⟨[0], none, none, none, none, rfl, s0, hd0, List.mem_cons_self, by simp, (fun t ht => (List.mem_singleton.mp ht) ▸ vg.pos), fun j hj => absurd hj (by omega)⟩ (fun i σ' H' hi hP => ?_) (fun σ' H' hP => ?_)
    · obtain ⟨L, y3, y4, y5, y6, rfl, s1, hd1, l0, l1, l2, l3⟩ := hP
      rw [show (0 : Int) + (i : Int) = (i : Int) from Int.zero_add _]
      have iL : i ∈ L := by
        by_cases z : i = 0
        · rw [z]; exact l0
        · obtain ⟨j, hj, hm⟩ := Mc.order_of vg ho hi z
          exact l3 j hj i hm
      have lk : valV (clsD L h) (.inl (i : Int)) = some (iv (h i)) := by rw [look_cls, if_pos iL]
      have hil := al.low i hi
      have dg : ∀ {H2 : Hp} {L2 : List Nat} {t : Nat}, H2 d = some (.dK (clsD L2 h)) → t ∈ L2 → DGet H2 d (iv t) (some (iv (h t))) := fun {H2 L2 t} e ht => by
        have g := DGet.k (k := .inl (t : Int)) e
        rw [look_cls, if_pos ht] at g
        exact g
      refine ⟨.ref p0, rfl, p0, _, _, _, rfl, rfl, SqT.of (s1 _ _ hp0), (atI_nat (j := 2) rfl), .ref d, rfl, iv i, rfl, d, _, rfl, dg hd1 iL, pb, _, _, _, rfl, rfl, SqT.of (s1 _ _ hpb), atI_nat (bl_get (ys_get vf hil)), .ref p1, rfl, p1, _, _, _, rfl, rfl, SqT.of (s1 _ _ hp1), (atI_nat (j := 2) rfl), iv i, rfl, pb1, _, _, _, rfl, rfl, SqT.of (s1 _ _ hpb1), atI_nat (bl_get (ys_get vg hi)), rfl, _, rfl, iteN ?_ ?_⟩
      · rw [al.yes i hi, decide_eq_true rfl]
        rfl
      obtain ⟨q1, e1, h1⟩ := hrow1 i _ (mv_get (m := gm) hi)
      obtain ⟨q2, e2, h2⟩ := hrow (h i) _ (mv_get (m := fm) hil)
      have slg : (gm.succ i).length = k := Mc.succ_len vg hi
      have sub : ∀ t ∈ gm.succ i, t < gm.mv.length := fun t ht => Mc.succ_lt vg ht
      have lead := al.lead i hi
      refine ⟨.ref p1, rfl, p1, _, _, _, rfl, rfl, SqT.of (s1 _ _ hp1), (atI_nat (j := 1) rfl), iv i, rfl, pa1, _, _, _, rfl, rfl, SqT.of (s1 _ _ hpa1), atI_nat e1, q1, (gm.succ i).map iv, rfl, SqT.of (s1 _ _ h1), ?_⟩
      refine for_enumT (xs := (gm.succ i).map iv) (fun j σ' H2 => ∃ (y4 y5 y6 : Option V), σ' = [some (.ref p0), some (.ref p1), some (.ref d), some (iv i), y4, y5, y6] ∧ Same H H2 ∧ H2 d = some (.dK (clsD (pushAll L ((gm.succ i).take j)) h)))
        ⟨y4, y5, y6, rfl, s1, hd1⟩ (fun j σ' H2 _ hP => ?_) (fun j v σ' H2 t0 hj hP nt => ?_) (fun σ' H2 hP => ?_)
      · obtain ⟨_, _, _, _, s2, _⟩ := hP
        exact SqT.of (s2 _ _ h1)
      · obtain ⟨z4, z5, z6, rfl, s2, hd2⟩ := hP
        rw [List.getElem?_map] at hj
        obtain ⟨t, ht, rfl⟩ := Option.map_eq_some_iff.mp hj
        have s3 : Same H2 (upd H2 t0 (.tup [iv j, iv t])) := Same.new nt
        have s4 := s2.trans s3
        have hd3 := s3 _ _ hd2
        have ht3 : (upd H2 t0 (.tup [iv j, iv t])) t0 = some (.tup [iv j, iv t]) := upd_same
        generalize upd H2 t0 (.tup [iv j, iv t]) = H3 at s3 s4 hd3 ht3
        have iL2 : i ∈ pushAll L ((gm.succ i).take j) := mem_pushAll.mpr (.inl iL)
        have jl := (List.getElem?_eq_some_iff.mp ht).1
        have emine : (fm.succ (h i))[j]? = some (h t) := by
          rw [lead, List.getElem?_map, ht]
          rfl
        refine ⟨t0, _, rfl, SqT.of ht3, rfl, _, _, rfl, _, _, rfl, rfl, ?_⟩
        refine ⟨.ref p0, rfl, p0, _, _, _, rfl, rfl, SqT.of (s4 _ _ hp0), (atI_nat (j := 1) rfl), .ref d, rfl, iv i, rfl, d, _, rfl, dg hd3 iL2, pa, _, _, _, rfl, rfl, SqT.of (s4 _ _ hpa), atI_nat e2, iv j, rfl, q2, _, _, _, rfl, rfl, SqT.of (s4 _ _ h2), atI_nat (iv_get emine), ?_⟩
        refine ⟨.ref d, rfl, d, rfl, .inl ⟨_, .inl hd3⟩, iv t, rfl, iv (h t), rfl, _, DGet.k (k := .inl (t : Int)) hd3, iv (h t), rfl, ?_⟩
        have eg : (valV (clsD (pushAll L ((gm.succ i).take j)) h) (.inl (t : Int))).getD (iv (h t)) = iv (h t) := by
          rw [look_cls]
          split <;> rfl
        rw [eg]
        refine ⟨rfl, _, rfl, iteN (by rw [decide_eq_true rfl]; rfl) ?_⟩
        have few : (pushAll L ((gm.succ i).take j)).length ≤ gm.mv.length := nodup_lt_length (pushAll_nodup l1) fun x hx => by
          rcases mem_pushAll.mp hx with z | z
          · exact l2 x z
          · exact sub x (List.mem_of_mem_take z)
        refine ⟨iv (h t), rfl, .ref d, rfl, iv t, rfl, d, _, rfl, DPut.k (k := .inl (t : Int)) hd3 (by unfold clsD; rw [List.length_map]; exact small (by omega)), ?_⟩
        refine ⟨_, _, _, rfl, s4.upd nd0, ?_⟩
        rw [upd_same, putK_cls, List.take_add_one, ht]
        show some (HO.dK (clsD (push (pushAll L ((gm.succ i).take j)) t) h)) = some (HO.dK (clsD (pushAll L ((gm.succ i).take j ++ [t])) h))
        rw [pushAll_snoc]
      · obtain ⟨z4, z5, z6, rfl, s2, hd2⟩ := hP
        rw [List.length_map, List.take_length] at hd2
        refine ⟨_, _, _, _, _, rfl, s2, hd2, mem_pushAll.mpr (.inl l0), pushAll_nodup l1, fun x hx => ?_, fun j hj t ht => mem_pushAll.mpr ?_⟩
        · rcases mem_pushAll.mp hx with z | z
          · exact l2 x z
          · exact sub x z
        · by_cases z : j = i
          · rw [z] at ht
            exact .inr ht
          · exact .inl (l3 j (by omega) t ht)
    · obtain ⟨L, y3, y4, y5, y6, rfl, s1, _⟩ := hP
      exact q H' s1
end
end Cw
set_option Elab.async false
set_option linter.all false
set_option maxRecDepth 100000
set_option maxHeartbeats 8000000
/-! law -/
namespace Kw
theorem build_take {k most : Nat} {rows : List Row} {ms : List Mc} (h : build k most [] rows = .ok ms) (i : Nat) : ∃ ms', build k most [] (rows.take i) = .ok ms' := by
  cases e : build k most [] (rows.take i) with
  | ok ms' => exact ⟨ms', rfl⟩
  | error n =>
    have h2 := build_app_err (more := rows.drop i) e
    rw [List.take_append_drop, h] at h2
    cases h2
theorem fits_take {k n : Nat} {rows : List Row} (h : Fits k n rows) (i : Nat) : Fits k n (rows.take i) := fun j row e => by
  rw [List.getElem?_take] at e
  split at e
  · exact h j row e
  · cases e
end Kw
namespace Cw
open PySem PySem.Spec PyProof.Rows L2 Kw NdefX LamX
theorem but_same {H H2 : Hp} {p : Addr} {o : HO} (n : H p = none) (b : But p (upd H p o) H2) : Same H H2 := fun c u e => b c u (ne_of_none e n) ((Same.new n) _ _ e)
theorem sqL_extN {K : PySem.W.Frag} {H H' : Hp} {a : Addr} {xs : List V} (h : SqL K H a xs) (e : ExtN H H') : SqL K H' a xs := by
  rcases h with h | h
  · refine .inl ?_
    rcases h with h | ⟨o, h⟩
    · exact .inl (e _ _ h fun ps z => nomatch z)
    · exact .inr ⟨o, e _ _ h fun ps z => nomatch z⟩
  · exact .inr h
theorem passN {P : Program} {w : World} {X : Cx} : Passes (L2.CX P w) X (fun _ _ _ => False) := fun _ _ _ _ _ _ _ h => by
  obtain ⟨_, _, _, _, _, _, _, _, _, _, _, _, h⟩ := h
  exact h.elim
theorem cut_take {xs : List V} {n : Nat} (hn : n ≤ xs.length) : cutV xs none (some (n : Int)) = xs.take n := by
  unfold cutV
  rw [HT.sIx_none, HT.sIx_nat, List.drop_zero, Nat.sub_zero, Nat.min_eq_left hn]
theorem cut_to {K : PySem.W.Frag} {H : Hp} {a : Addr} {xs : List V} {n : Nat} {Q : VK} (h : H a = some (.tup xs)) (hn : n ≤ xs.length) (q : ∀ p H', Same H H' → H' p = some (.tup (xs.take n)) → Q (.ref p) H') : rSlA K (.ref a) none (some (n : Int)) H Q := by
  refine ⟨a, xs, rfl, SqT.of h, fun whole => ?_, fun part p np => ?_⟩
  · have e := whole.2
    rw [HT.sIx_nat] at e
    have : n = xs.length := by omega
    subst this
    exact q a H (Same.refl _) (by rw [List.take_length]; exact h)
  · rw [cut_take hn]
    exact q p _ (Same.new np) upd_same
theorem paired_take {α β : Type} {R : α → β → Prop} : ∀ {l : List α} {m : List β} (n : Nat), Paired R l m → Paired R (l.take n) (m.take n)
  | _, _, 0, _ => .nil
  | _, _, _ + 1, .nil => .nil
  | _, _, n + 1, .cons e t => .cons e (paired_take n t)
theorem cut_few {xs : List V} : (cutV xs (some 4) (some 13)).length ≤ 13 := by
  unfold cutV
  rw [List.length_take]
  have : HT.sIx xs.length xs.length (some ((13 : Nat) : Int)) = min 13 xs.length := HT.sIx_nat _ _ _
  have e : HT.sIx xs.length xs.length (some 13) = min 13 xs.length := this
  rw [e]
  omega
structure LawDefs (P : Program) (w : World) (K : PySem.W.Frag) (mg : Str → Option Value) (base : Heap) (C : Addr) (T : List NTab) (ds : List Value) (fBx fTk fLt fEx fGr fMd fRf fIs fAl fLe fTx fLs fTs fM : Addr) (fdBx fdTk fdLt fdEx fdGr fdMd fdRf fdIs fdAl fdLe fdTx fdLs fdTs fdM : FuncData) : Prop where
  oBx : FnOk P w K mg base CX0 1 fBx fdBx ["_law_script", "_law_k"] (spBox K)
  kBx : PySem.W.keepIn K (.ref fBx) = true
  bBx : Binds K fdBx ["_law_script", "_law_k"] []
  gBx : mg "_law_box" = some (.ref fBx)
  oTk : FnOk P w K mg base CX0 1 fTk fdTk ["_law_box_here", "_law_wide"] spTake
  kTk : PySem.W.keepIn K (.ref fTk) = true
  bTk : Binds K fdTk ["_law_box_here", "_law_wide"] []
  gTk : mg "_law_take" = some (.ref fTk)
  oLt : FnOk P w K mg base CX0 2 fLt fdLt ["_law_box_here", "_law_most"] spLetters
  kLt : PySem.W.keepIn K (.ref fLt) = true
  bLt : Binds K fdLt ["_law_box_here", "_law_most"] []
  gLt : mg "_law_letters" = some (.ref fLt)
  oEx : FnOk P w K mg base CX0 3 fEx fdEx ["_law_box_here", "_law_letters_here", "_law_most"] spExpr
  kEx : PySem.W.keepIn K (.ref fEx) = true
  bEx : Binds K fdEx ["_law_box_here", "_law_letters_here", "_law_most"] []
  gEx : mg "_law_expression" = some (.ref fEx)
  oGr : FnOk P w K mg base CX0 2 fGr fdGr ["_law_letters_here", "_law_row", "_law_made_here", "_law_most"] spLGrown
  kGr : PySem.W.keepIn K (.ref fGr) = true
  bGr : Binds K fdGr ["_law_letters_here", "_law_row", "_law_made_here", "_law_most"] []
  gGr : mg "_law_grown" = some (.ref fGr)
  oMd : FnOk P w K mg base CX0 8 fMd fdMd ["_law_letters_here", "_law_rows", "_law_most"] (spLMade T)
  kMd : PySem.W.keepIn K (.ref fMd) = true
  bMd : Binds K fdMd ["_law_letters_here", "_law_rows", "_law_most"] []
  gMd : mg "_law_made" = some (.ref fMd)
  oRf : FnOk P w K mg base CX0 1 fRf fdRf ["_law_found", "_law_at"] spLRef
  kRf : PySem.W.keepIn K (.ref fRf) = true
  bRf : Binds K fdRf ["_law_found", "_law_at"] []
  gRf : mg "_law_refused_at" = some (.ref fRf)
  oIs : FnOk P w K mg base CX0 1 fIs fdIs ["_law_machine", "_law_letters_here"] spLIs
  kIs : PySem.W.keepIn K (.ref fIs) = true
  bIs : Binds K fdIs ["_law_machine", "_law_letters_here"] []
  gIs : mg "_law_is_machine" = some (.ref fIs)
  oAl : FnOk P w K mg base CX0 1 fAl fdAl ["_law_machine", "_law_grown_here"] spLAlike
  kAl : PySem.W.keepIn K (.ref fAl) = true
  bAl : Binds K fdAl ["_law_machine", "_law_grown_here"] []
  gAl : mg "_law_alike" = some (.ref fAl)
  oLe : FnOk P w K mg base CX0 2 fLe fdLe ["_law_machine"] spLLeast
  kLe : PySem.W.keepIn K (.ref fLe) = true
  bLe : Binds K fdLe ["_law_machine"] []
  gLe : mg "_law_least" = some (.ref fLe)
  oTx : FnOk P w K mg base CX0 2 fTx fdTx ["_law_box_here", "_law_letters_here", "_law_most"] spText
  kTx : PySem.W.keepIn K (.ref fTx) = true
  bTx : Binds K fdTx ["_law_box_here", "_law_letters_here", "_law_most"] []
  gTx : mg "_law_text" = some (.ref fTx)
  oLs : FnOk P w K mg base CX0 2 fLs fdLs ["_law_machine", "_law_text_here"] spLets
  kLs : PySem.W.keepIn K (.ref fLs) = true
  bLs : Binds K fdLs ["_law_machine", "_law_text_here"] []
  gLs : mg "_law_lets" = some (.ref fLs)
  oTs : FnOk P w K mg base CX0 2 fTs fdTs ["_law_expression_here", "_law_text_here"] spTells
  kTs : PySem.W.keepIn K (.ref fTs) = true
  bTs : Binds K fdTs ["_law_expression_here", "_law_text_here"] []
  gTs : mg "_law_tells" = some (.ref fTs)
  oM : FnOk P w K mg base (L2.CX P w) 7 fM fdM ["letters", "expression", "most"] (spMOf C T)
  kM : PySem.W.keepIn K (.ref fM) = true
  bM : Binds K fdM ["letters", "expression", "most"] ds
  gM : mg "machine_of" = some (.ref fM)
  dM : Vals [.int 400] ds

section
variable {P : Program} {w : World} {K : PySem.W.Frag} {mg : Str → Option Value} {base : Heap}
def spLaw (K : PySem.W.Frag) (T : List NTab) : Sp := fun vs H Q _ => ∃ (a : Addr) (ns : List Int), vs = [.ref a] ∧ SqL K H a (ns.map V.int) ∧ ns.length ≤ 1000 ∧ TabsN T H ∧ ∀ H', Q (.bl true) H'
theorem ok_law {C f fBx fTk fLt fEx fGr fMd fRf fIs fAl fLe fTx fLs fTs fM : Addr} {fd fdBx fdTk fdLt fdEx fdGr fdMd fdRf fdIs fdAl fdLe fdTx fdLs fdTs fdM : FuncData} {T : List NTab} {ds : List Value} (F : Fun K "law" "law" sLaw f fd) (D : LawDefs P w K mg base C T ds fBx fTk fLt fEx fGr fMd fRf fIs fAl fLe fTx fLs fTs fM fdBx fdTk fdLt fdEx fdGr fdMd fdRf fdIs fdAl fdLe fdTx fdLs fdTs fdM)
    (mrng : mg "range" = none) (menum : mg "enumerate" = none) (mlen : mg "len" = none) : FnOk P w K mg base CX0 9 f fd ["_law_script"] (spLaw K T) := by
  refine F.ok scLaw (fun vs H Q E h => ?_) (fun cdv A outer s H vs Q E hr h => ?_)
  · obtain ⟨a, ns, rfl, _⟩ := h
    rfl
  · obtain ⟨a, ns, rfl, hS, hns, hT, q⟩ := h
    have nd := scLaw.nd
    have hu64 : (A.deeper (envOfC "law" (defScope sLaw) s.heap.objs.size f cdv)).units + 64 < cLine := hr.units
    refine ⟨_, pss_cons (ps_set (i := 1) nd rfl (by first | exact Or.inl rfl | exact Or.inr rfl) (pe_call D.oBx (hr.mono (by decide)) (by rfl) D.gBx D.kBx D.bBx .nil pass0 (pa_cons (pv 0) (pa_cons (pe_int) pa_nil))))
      (pss_cons (ps_set (i := 2) nd rfl (by first | exact Or.inl rfl | exact Or.inr rfl) (pe_call D.oLt (hr.mono (by decide)) (by rfl) D.gLt D.kLt D.bLt .nil pass0 (pa_cons (pv 1) (pa_cons (pe_int) pa_nil))))
      (pss_cons (ps_set (i := 3) nd rfl (by first | exact Or.inl rfl | exact Or.inr rfl) (pe_call D.oEx (hr.mono (by decide)) (by rfl) D.gEx D.kEx D.bEx .nil pass0 (pa_cons (pv 1) (pa_cons (pv 2) (pa_cons (pe_int) pa_nil)))))
      (pss_cons (ps_set (i := 4) nd rfl (by first | exact Or.inl rfl | exact Or.inr rfl) (pe_op op_add (pe_int) (pe_call D.oTk (hr.mono (by decide)) (by rfl) D.gTk D.kTk D.bTk .nil pass0 (pa_cons (pe_call D.oBx (hr.mono (by decide)) (by rfl) D.gBx D.kBx D.bBx .nil pass0 (pa_cons (pv 0) (pa_cons (pe_int) pa_nil))) (pa_cons (pe_int) pa_nil)))))
      (pss_cons (ps_set (i := 5) nd rfl (by first | exact Or.inl rfl | exact Or.inr rfl) (pe_lst pa_nil))
      (pss_cons (ps_for PassesOwn.never rfl (pi_enumT (by rfl) menum (pa_cons (pv 3) pa_nil)) (pg_tup (by rfl) (pgs_cons (pg_name (i := 6) nd rfl (by first | exact Or.inl rfl | exact Or.inr rfl)) (pgs_cons (pg_name (i := 7) nd rfl (by first | exact Or.inl rfl | exact Or.inr rfl)) pgs_nil)))
      (pss_cons (ps_set (i := 8) nd rfl (by first | exact Or.inl rfl | exact Or.inr rfl) (pe_call D.oGr (hr.mono (by decide)) (by rfl) D.gGr D.kGr D.bGr .nil pass0 (pa_cons (pv 2) (pa_cons (pv 7) (pa_cons (pv 5) (pa_cons (pv 4) pa_nil))))))
      (pss_cons (ps_set (i := 9) nd rfl (by first | exact Or.inl rfl | exact Or.inr rfl) (pe_call D.oMd hr (by rfl) D.gMd D.kMd D.bMd .nil pass0 (pa_cons (pv 2) (pa_cons (pe_slice sl_tupA (pv 3) po_none (po_some (pe_op op_add (pv 6) (pe_int)))) (pa_cons (pv 4) pa_nil)))))
      (pss_cons (ps_if (pt_cmp (pc_isN (pv 8))) (pss_one (ps_ret (pe_and (pe_call D.oRf (hr.mono (by decide)) (by rfl) D.gRf D.kRf D.bRf .nil pass0 (pa_cons (pv 9) (pa_cons (pv 6) pa_nil))) (pe_one (pe_call D.oRf (hr.mono (by decide)) (by rfl) D.gRf D.kRf D.bRf .nil pass0 (pa_cons (pe_call D.oMd hr (by rfl) D.gMd D.kMd D.bMd .nil pass0 (pa_cons (pv 2) (pa_cons (pv 3) (pa_cons (pv 4) pa_nil)))) (pa_cons (pv 6) pa_nil))))))) (pss_nil))
      (pss_cons (ps_if (PW.pt (pw_or (pt_not (pt_val (pe_call D.oIs (hr.mono (by decide)) (by rfl) D.gIs D.kIs D.bIs .nil pass0 (pa_cons (pv 9) (pa_cons (pv 2) pa_nil))))) (pw_or (pt_not (pt_val (pe_call D.oAl (hr.mono (by decide)) (by rfl) D.gAl D.kAl D.bAl .nil pass0 (pa_cons (pv 9) (pa_cons (pv 8) pa_nil))))) (pw_or1 (pt_cmpR (op_neD hu64) (pe_call D.oLe (hr.mono (by decide)) (by rfl) D.gLe D.kLe D.bLe .nil pass0 (pa_cons (pv 9) pa_nil)) (pv 9) (nomark _)))))) (pss_one (ps_ret pe_bl)) pss_nil)
      (pss_one (ps_expr (pe_bm PySem.F.plainAttrs_list PySem.F.slot_list_append PySem.F.type_list_append mt_append (pv 5) (pa_cons (pv 9) pa_nil)))))))))
      (pss_cons (ps_for PassesOwn.never rfl (pi_range2 (by rfl) mrng (pa_cons (pe_int) (pa_cons (pe_op op_add (pe_int) (pe_callB call_len_seq (by rfl) mlen PySem.boot_len (pa_cons (pe_slice sl_list (pv 0) (po_some pe_int) (po_some pe_int)) pa_nil))) pa_nil))) (pg_name (i := 10) nd rfl (by first | exact Or.inl rfl | exact Or.inr rfl))
      (pss_cons (ps_set (i := 11) nd rfl (by first | exact Or.inl rfl | exact Or.inr rfl) (pe_call D.oTx (hr.mono (by decide)) (by rfl) D.gTx D.kTx D.bTx .nil pass0 (pa_cons (pe_call D.oBx (hr.mono (by decide)) (by rfl) D.gBx D.kBx D.bBx .nil pass0 (pa_cons (pv 0) (pa_cons (pv 10) pa_nil))) (pa_cons (pv 2) (pa_cons (pe_int) pa_nil)))))
      (pss_one (ps_if (pt_cmpR op_ne (pe_call D.oLs (hr.mono (by decide)) (by rfl) D.gLs D.kLs D.bLs .nil pass0 (pa_cons (pe_ix ix_list (pv 5) (pe_un un_neg pe_int) (fun _ _ => rfl)) (pa_cons (pv 11) pa_nil))) (pe_call D.oTs (hr.mono (by decide)) (by rfl) D.gTs D.kTs D.bTs .nil pass0 (pa_cons (pv 3) (pa_cons (pv 11) pa_nil))) (by rfl)) (pss_one (ps_ret pe_bl)) pss_nil))))
      (pss_one (ps_ret (pe_cmpR (op_eqD hu64) (pe_call D.oM (hr.mono (by decide)) (by rfl) D.gM D.kM D.bM D.dM passN (pa_cons (pv 2) (pa_cons (pv 3) pa_nil))) (pe_ix ix_list (pv 5) (pe_un un_neg pe_int) (fun _ _ => rfl)) (by rfl)))))))))), ?_⟩
    -- box, letters, rows
    refine ⟨.ref a, rfl, a, ns, 0, rfl, hS, hns, by omega, fun p o np bo => ?_⟩
    refine ⟨.ref p, rfl, p, rfl, bo, fun H2 ls b2 bo2 hnd hk0 hk3 hso => ?_⟩
    refine ⟨.ref p, rfl, .str ls, rfl, p, ls, rfl, bo2, hk0, by omega, fun H3 v rows b3 hx hf hne hr8 => ?_⟩
    have s3 : Same H H3 := but_same np (b2.trans b3)
    have T3 : TabsN T H3 := hT.ext fun b o e => s3 b o e
    have S3 : SqL K H3 a (ns.map V.int) := sqL_extN hS (extN_same s3)
    have hso' : PyData.canLay0 (.str ls) = true := by
      rw [PyData.canLay0]
      exact hso
    obtain ⟨pr, vr, rfl, hpr, hrows⟩ := hx
    have hvr : vr.length = rows.length := Paired.length hrows
    -- most, made
    refine ⟨.ref a, rfl, a, ns, 1, rfl, S3, hns, by omega, fun p2 o2 np2 bo3 => ⟨p2, 33, rfl, by decide, by decide, bo3, fun d o4 hd bo4 => ?_⟩⟩
    refine ⟨8, d, rfl, rfl, ?_⟩
    have s4 : Same H3 (upd (upd H3 p2 o2) p2 o4) := (Same.new np2).upd np2
    generalize upd (upd H3 p2 o2) p2 o4 = H4 at s4
    refine ⟨by show 0 ≤ sizeLine; decide, fun l nl => ?_⟩
    have nl3 : H3 l = none := none_same s4 nl
    have s5 : Same H3 (upd H4 l (.lst [])) := s4.trans (Same.new nl)
    have hl5 : (upd H4 l (.lst [])) l = some (.lst []) := upd_same
    generalize upd H4 l (.lst []) = H5 at s5 hl5
    obtain ⟨most, hmost⟩ : ∃ most, most = 8 + d := ⟨_, rfl⟩
    have hm40 : most ≤ 60 := by omega
    have hm400 : most ≤ 400 := by omega
    have hp0 : Kw.Parts ls.length 60 [] := fun m hm => by simp at hm
    have parts : ∀ i ms, build ls.length most [] (rows.take i) = .ok ms → Kw.Parts ls.length 60 ms := fun i ms hb => build_parts (by omega) (by omega) hm40 hp0 (fits_take hf i) hb
    refine ⟨.ref pr, rfl, pr, vr, rfl, SqT.of (s5 _ _ hpr), ?_⟩
    refine for_enumT (xs := vr) (fun i σ' H' => ∃ (ms : List Mc) (vm : List V) (y6 y7 y8 y9 : Option V), σ' = [some (.ref a), some (.ref p), some (.str ls), some (.ref pr), some (iv most), some (.ref l), y6, y7, y8, y9, none, none] ∧ ExtN H3 H' ∧ TabsN T H' ∧ H' l = some (.lst vm) ∧ MadeAt H' vm ls ms ∧ build ls.length most [] (rows.take i) = .ok ms)
      ⟨[], [], none, none, none, none, (by rw [hmost]; rfl), extN_same s5, T3.ext fun b o e => s5 b o e, hl5, .nil, by rw [List.take_zero]; rfl⟩ (fun i σ' H' _ hP => ?_) (fun i v σ' H' t0 hi hP nt => ?_) (fun σ' H' hP => ?_)
    · obtain ⟨_, _, _, _, _, _, _, x1, _⟩ := hP
      exact SqT.of (extN_tst x1 _ _ hpr)
    · obtain ⟨ms, vm, y6, y7, y8, y9, rfl, x1, T1, hl1, hm1, hb1⟩ := hP
      obtain ⟨row, hrow, hrv⟩ := paired_getL hrows i v hi
      have hil := (List.getElem?_eq_some_iff.mp hrow).1
      have tk : rows.take (i + 1) = rows.take i ++ [row] := by rw [List.take_add_one, hrow]; rfl
      have hml : ms.length = i := by
        have := build_len hb1
        rw [List.length_take] at this
        simp at this
        omega
      have hbs := build_snoc (row := row) hb1
      rw [← tk] at hbs
      have hfr : row.fits ls.length ms.length := by
        have := hf i row hrow
        rw [Nat.zero_add] at this
        rw [hml]
        exact this
      have hpm := parts i ms hb1
      have s1 : Same H' (upd H' t0 (.tup [iv i, v])) := Same.new nt
      refine ⟨t0, _, rfl, SqT.of upd_same, rfl, _, _, rfl, _, _, rfl, rfl, ?_⟩
      have x2 : ExtN H3 (upd H' t0 (.tup [iv i, v])) := x1.trans (extN_same s1)
      have T2 : TabsN T (upd H' t0 (.tup [iv i, v])) := T1.ext fun b o e => s1 b o e
      have hl2 := s1 _ _ hl1
      have hm2 := hm1.tst s1.tst
      generalize upd H' t0 (.tup [iv i, v]) = H6 at x2 T2 hl2 hm2
      have tl : (rows.take (i + 1)).length = i + 1 := by rw [List.length_take]; omega
      have tne : rows.take (i + 1) ≠ [] := fun e => by
        rw [e] at tl
        simp at tl
      have tparts : ∀ j ms', build ls.length most [] ((rows.take (i + 1)).take j) = .ok ms' → Kw.Parts ls.length 60 ms' := fun j ms' hb => by
        rw [List.take_take] at hb
        exact parts _ ms' hb
      refine ⟨.str ls, rfl, v, rfl, .ref l, rfl, iv most, rfl, ls, v, l, row, ms, most, rfl, ⟨vm, hrv.tst (extN_tst x2), hl2, hm2, hfr, hpm, by omega, hnd⟩, by omega, fun ho H7 s7 => ?_, fun ho H7 u s7 hu => ?_⟩
      · -- too many
        have hbe : build ls.length most [] (rows.take (i + 1)) = .error i := by
          rw [hbs]
          unfold stepR
          rw [ho, if_pos rfl, hml]
        have hbw : build ls.length most [] rows = .error i := by
          have h2 := build_app_err (more := rows.drop (i + 1)) hbe
          rw [List.take_append_drop] at h2
          exact h2
        have x7 := x2.trans (extN_same s7)
        have T7 : TabsN T H7 := T2.ext fun b o e => s7 b o e
        refine ⟨.str ls, rfl, .ref pr, rfl, iv i, rfl, i, 1, rfl, rfl, _, rfl, cut_to (n := i + 1) (extN_tst x7 _ _ hpr) (by omega) fun p8 H8 s8 hp8 => ?_⟩
        have x8 := x7.trans (extN_same s8)
        have T8 : TabsN T H8 := T7.ext fun b o e => s8 b o e
        refine ⟨iv most, rfl, ls, .ref p8, most, rows.take (i + 1), rfl, ⟨p8, _, rfl, hp8, paired_take _ (Paired.mapP hrows fun _ _ z => z.tst (extN_tst x8))⟩, fits_take hf _, tne, by omega, tparts, hnd, hk0, by omega, hm400, T8, fun n hb H9 e9 T9 => ?_, fun ms' hb => by rw [hbe] at hb; cases hb⟩
        rw [hbe] at hb
        cases hb
        have x9 := x8.trans e9
        refine ⟨.non, rfl, _, rfl, iteP (decide_eq_true rfl) ?_⟩
        refine ⟨iv i, rfl, iv i, rfl, i, rfl, true, rfl, iteP rfl ?_⟩
        refine ⟨.str ls, rfl, .ref pr, rfl, iv most, rfl, ls, .ref pr, most, rows, rfl, ⟨pr, vr, rfl, extN_tst x9 _ _ hpr, Paired.mapP hrows fun _ _ z => z.tst (extN_tst x9)⟩, hf, hne, by omega, parts, hnd, hk0, by omega, hm400, T9, fun n hb H10 e10 T10 => ?_, fun ms' hb => by rw [hbw] at hb; cases hb⟩
        rw [hbw] at hb
        cases hb
        exact ⟨iv i, rfl, i, rfl, q _⟩
      · -- a machine
        have hbo : build ls.length most [] (rows.take (i + 1)) = .ok (ms ++ [rowM ls.length ms row]) := by
          rw [hbs]
          unfold stepR
          rw [ho]
          rfl
        have x7 := x2.trans (extN_same s7)
        have T7 : TabsN T H7 := T2.ext fun b o e => s7 b o e
        obtain ⟨gp, eu⟩ : ∃ gp, u = .ref gp := by
          obtain ⟨gp, _, _, e, _⟩ := hu
          exact ⟨gp, e⟩
        subst eu
        refine ⟨.str ls, rfl, .ref pr, rfl, iv i, rfl, i, 1, rfl, rfl, _, rfl, cut_to (n := i + 1) (extN_tst x7 _ _ hpr) (by omega) fun p8 H8 s8 hp8 => ?_⟩
        have x8 := x7.trans (extN_same s8)
        have T8 : TabsN T H8 := T7.ext fun b o e => s8 b o e
        refine ⟨iv most, rfl, ls, .ref p8, most, rows.take (i + 1), rfl, ⟨p8, _, rfl, hp8, paired_take _ (Paired.mapP hrows fun _ _ z => z.tst (extN_tst x8))⟩, fits_take hf _, tne, by omega, tparts, hnd, hk0, by omega, hm400, T8, (fun n hb => by rw [hbo] at hb; cases hb), fun ms' hb H9 m9 e9 T9 hm9 => ?_⟩
        rw [hbo] at hb
        cases hb
        rw [tl, Nat.add_sub_cancel] at hm9
        have epart : Kw.part (ms ++ [rowM ls.length ms row]) i = rowM ls.length ms row := by
          rw [part_snoc, if_neg (by omega), if_pos hml.symm]
        rw [epart] at hm9
        have cn : (rowM ls.length ms row).Canon ls.length := row_canon hpm hfr (by omega) hm400 ho
        have fw : (rowM ls.length ms row).mv.length ≤ 60 := row_few hpm hfr (by omega) (by omega) hm40 ho
        have hg9 := hu.tst ((s8.tst).trans (extN_tst e9))
        have egr := grown_renum hpm hfr (by omega) hm400 ho
        have rv := raw_valid hpm hfr (by omega) hm400 ho
        have cf := (closed_far hpm hfr hm400 (by omega) ho).1
        have gl : (grownM ls.length ms row).mv.length ≤ 1000 := by
          unfold grownM
          rw [Gr.mc_len]
          unfold far at cf ⊢
          omega
        have gval : (grownM ls.length ms row).Valid ls.length := by
          rw [egr]
          exact Mc.renum_valid rv
        have gord : (grownM ls.length ms row).come = List.range (grownM ls.length ms row).mv.length := by
          unfold grownM
          rw [Gr.mc_order cf, Gr.mc_len]
        refine ⟨.ref gp, rfl, _, rfl, iteN (decide_eq_false fun z => nomatch z) ?_⟩
        refine ⟨m9, rfl, .str ls, rfl, m9, ls, rowM ls.length ms row, rfl, hm9, cn.toValid, by omega, by omega, fun H10 s10 => ⟨_, rfl, iteN rfl ?_⟩⟩
        refine ⟨m9, rfl, .ref gp, rfl, m9, .ref gp, ls, rowM ls.length ms row, grownM ls.length ms row, _, ls.length, rfl, hm9.tst s10.tst, hg9.tst s10.tst, cn.toValid, gval, gord, by rw [egr]; exact Mc.alike_least rv (Mc.cls_parts _), by omega, by omega, gl, fun H11 s11 => ⟨_, rfl, iteN rfl ?_⟩⟩
        have hm11 := (hm9.tst s10.tst).tst s11.tst
        refine ⟨m9, rfl, m9, ls, rowM ls.length ms row, ls.length, rfl, hm11, cn, hk0, by omega, fw, fun H12 v12 s12 hv12 => ?_⟩
        have hm12 := hm11.tst s12.tst
        refine ⟨m9, rfl, mcD ls (rowM ls.length ms row), mcD ls (rowM ls.length ms row), dp_mc hv12, dp_mc hm12, shape_mc hso', shape_mc hso', _, rfl, iteN ?_ ?_⟩
        · rw [PySem.SeqAt.eqv_refl _ (lay_mc hso')]
          rfl
        have st12 : Same H9 H12 := s10.trans (s11.trans s12)
        have x12 := (x8.trans e9).trans (extN_same st12)
        have T12 : TabsN T H12 := T9.ext fun b o e => st12 b o e
        have hl12 : H12 l = some (.lst vm) := st12 _ _ (e9 _ _ (s8 _ _ (s7 _ _ hl2)) fun ps z => nomatch z)
        have hm12' := ((hm2.tst s7.tst).tst s8.tst).tst ((extN_tst e9).trans st12.tst)
        have hmv : vm.length = ms.length := Paired.length hm1
        have ts : Tst H12 (upd H12 l (.lst (vm ++ [m9]))) := ts_lst hl12
        refine ⟨.ref l, rfl, .inl ⟨rfl, _, SqL.of hl12⟩, m9, rfl, l, _, _, rfl, rfl, hl12, small (by omega), ?_⟩
        exact ⟨_, _, _, _, _, _, rfl, extN_upd x12 nl3, tabs_upd T12 hl12, upd_same, Paired.snoc (hm12'.tst ts) (hm12.tst ts), hbo⟩
    · -- the texts
      obtain ⟨ms, vm, y6, y7, y8, y9, rfl, x1, T1, hl1, hm1, hb1⟩ := hP
      rw [hvr, List.take_length] at hb1
      have hml : ms.length = rows.length := by
        have := build_len hb1
        simp at this
        exact this
      have hr0 : 0 < rows.length := List.length_pos_iff.mpr hne
      obtain ⟨u, eu, hu⟩ := hm1.at_ (i := rows.length - 1) (by omega)
      have hmv : vm.length = ms.length := Paired.length hm1
      have eu : vm[vm.length - 1]? = some u := by rw [hmv, hml]; exact eu
      have pall := parts rows.length ms (by rw [List.take_length]; exact hb1)
      have cm := (pall.at (i := rows.length - 1) (by omega)).1
      have ag : Agree ls.length ms (langs [] rows) := build_agree (b := 60) hk0 (by omega) (by omega) hm40 hp0 ⟨rfl, fun i hi => absurd hi (by simp)⟩ hf hb1
      have b4 := build_more (b := 60) (by omega) (by omega) hm40 hp0 hf hb1
      have parts4 : ∀ i ms', build ls.length 400 [] (rows.take i) = .ok ms' → Kw.Parts ls.length 60 ms' := fun i ms' hb => by
        obtain ⟨ms2, h2⟩ := build_take hb1 i
        have h3 := build_more (b := 60) (by omega) (by omega) hm40 hp0 (fits_take hf i) h2
        rw [hb] at h3
        cases h3
        exact parts i _ h2
      have S1 : SqL K H' a (ns.map V.int) := sqL_extN S3 x1
      have hag := ag.tell (rows.length - 1) (by omega)
      generalize hlast : Kw.part ms (rows.length - 1) = mlast at hu cm hag
      refine ⟨.ref a, rfl, 4, rfl, 13, rfl, a, _, rfl, S1, fun p3 np3 => ?_⟩
      have s2 : Same H' (upd H' p3 (.lst (cutV (ns.map V.int) (some 4) (some 13)))) := Same.new np3
      have hp3 : (upd H' p3 (.lst (cutV (ns.map V.int) (some 4) (some 13)))) p3 = some (.lst (cutV (ns.map V.int) (some 4) (some 13))) := upd_same
      have fewc := cut_few (xs := ns.map V.int)
      generalize cutV (ns.map V.int) (some 4) (some 13) = cut at s2 hp3 fewc
      generalize upd H' p3 (.lst cut) = H6 at s2 hp3
      refine ⟨p3, _, rfl, .inl (SqL.of hp3), 4, _, rfl, rfl, 2, _, rfl, ⟨by omega, by omega, by omega, by omega⟩, ?_⟩
      have x6 := x1.trans (extN_same s2)
      refine for_range (lo := 2) (fun i σ' H'' => ∃ (y10 y11 : Option V), σ' = [some (.ref a), some (.ref p), some (.str ls), some (.ref pr), some (iv most), some (.ref l), y6, y7, y8, y9, y10, y11] ∧ Same H' H'')
        ⟨none, none, rfl, s2⟩ (fun i σ' H'' hi hP => ?_) (fun σ' H'' hP => ?_)
      · obtain ⟨y10, y11, rfl, s7⟩ := hP
        have hi15 : i ≤ 15 := by omega
        have S7 : SqL K H'' a (ns.map V.int) := sqL_extN S1 (extN_same s7)
        refine ⟨.ref a, rfl, _, rfl, a, ns, 2 + i, rfl, S7, hns, by omega, fun p4 o4 np4 bo5 => ?_⟩
        refine ⟨.str ls, rfl, p4, ls, 6, rfl, bo5, hk0, by omega, by omega, fun H8 W b8 okW lW => ?_⟩
        have s8 : Same H' H8 := s7.trans (but_same np4 b8)
        generalize htx : (⟨(W.map fun a => ls.cps.toList.getD a 0).toArray⟩ : Str) = tx
        have tx1 : TxAt tx ls W := ⟨by rw [← htx], okW, by omega⟩
        refine ⟨.ref l, rfl, 1, rfl, l, _, _, _, rfl, rfl, SqL.of (s8 _ _ hl1), atI_last eu, .str tx, rfl, u, tx, ls, W, mlast, rfl, hu.tst s8.tst, cm.toValid, tx1, hnd, by omega, ?_⟩
        have xr := x1.trans (extN_same s8)
        refine ⟨.ref pr, rfl, .str tx, rfl, .ref pr, tx, ls, W, rows, rfl, ⟨pr, vr, rfl, extN_tst xr _ _ hpr, Paired.mapP hrows fun _ _ z => z.tst (extN_tst xr)⟩, hf, by omega, hne, tx1, hnd, fun H9 b s9 hb => ?_⟩
        have eb : mlast.acc W = b := by
          have ht := hag W okW
          cases b with
          | true => exact ht.mpr (hb.mp rfl)
          | false =>
            cases e : mlast.acc W with
            | false => rfl
            | true => exact (hb.mpr (ht.mp e)).symm
        refine ⟨rfl, _, rfl, iteN ?_ ⟨_, _, rfl, s8.trans s9⟩⟩
        rw [eb, decide_eq_true rfl]
        rfl
      · obtain ⟨y10, y11, rfl, s7⟩ := hP
        have x7 := x1.trans (extN_same s7)
        have T7 : TabsN T H'' := T1.ext fun b o e => s7 b o e
        refine ⟨.str ls, rfl, .ref pr, rfl, ls, .ref pr, 400, rows, rfl, ⟨pr, vr, rfl, extN_tst x7 _ _ hpr, Paired.mapP hrows fun _ _ z => z.tst (extN_tst x7)⟩, hf, hne, by omega, parts4, hnd, hk0, by omega, by decide, T7, (fun n hb => by rw [b4] at hb; cases hb), fun ms' hb H9 m9 e9 T9 hm9 => ?_⟩
        rw [b4] at hb
        cases hb
        rw [hlast] at hm9
        have hl9 : H9 l = some (.lst vm) := e9 _ _ (s7 _ _ hl1) fun ps z => nomatch z
        refine ⟨.ref l, rfl, 1, rfl, l, _, _, _, rfl, rfl, SqL.of hl9, atI_last eu, ?_⟩
        refine ⟨mcD ls mlast, mcD ls mlast, dp_mc hm9, dp_mc (hu.tst (s7.tst.trans (extN_tst e9))), shape_mc hso', shape_mc hso', ?_⟩
        rw [PySem.SeqAt.eqv_refl _ (lay_mc hso')]
        exact q _
end
end Cw
set_option Elab.async false
set_option linter.all false
set_option maxRecDepth 100000
set_option maxHeartbeats 0
/-! The head: facts by names, the run. -/
namespace Cw
open PySem PySem.Spec PyProof.Rows L2
def d_grown_from : He.DefD := ⟨("grown_from", none), "grown_from", "grown_from", defArgs sGrown, defBody sGrown, defScope sGrown, [], []⟩
def d_come_up : He.DefD := ⟨("come_up", none), "come_up", "come_up", defArgs sCome, defBody sCome, defScope sCome, [], []⟩
def d_parted_rooms : He.DefD := ⟨("parted_rooms", none), "parted_rooms", "parted_rooms", defArgs sParted, defBody sParted, defScope sParted, [], []⟩
def d_least_of : He.DefD := ⟨("least_of", none), "least_of", "least_of", defArgs sLeastOf, defBody sLeastOf, defScope sLeastOf, [], []⟩
def d_least : He.DefD := ⟨("least", none), "least", "least", defArgs sLeast, defBody sLeast, defScope sLeast, [], []⟩
def d_no_of : He.DefD := ⟨("no_of", none), "no_of", "no_of", defArgs sNoOf, defBody sNoOf, defScope sNoOf, [], []⟩
def d_check_letters : He.DefD := ⟨("check_letters", none), "check_letters", "check_letters", defArgs sCheck, defBody sCheck, defScope sCheck, [], []⟩
def d_machine_of_rooms : He.DefD := ⟨("machine_of_rooms", none), "machine_of_rooms", "machine_of_rooms", defArgs sMRooms, defBody sMRooms, defScope sMRooms, [], []⟩
def d_paired : He.DefD := ⟨("paired", none), "paired", "paired", defArgs sPaired, defBody sPaired, defScope sPaired, [], []⟩
def d_both_of : He.DefD := ⟨("both_of", none), "both_of", "both_of", defArgs sBoth, defBody sBoth, defScope sBoth, [.int 400], []⟩
def d_either_of : He.DefD := ⟨("either_of", none), "either_of", "either_of", defArgs sEither, defBody sEither, defScope sEither, [.int 400], []⟩
def d_behind_of : He.DefD := ⟨("behind_of", none), "behind_of", "behind_of", defArgs sBehind, defBody sBehind, defScope sBehind, [.int 400], []⟩
def d_plain_machine : He.DefD := ⟨("plain_machine", none), "plain_machine", "plain_machine", defArgs sPlain, defBody sPlain, defScope sPlain, [], []⟩
def d_row_machine : He.DefD := ⟨("row_machine", none), "row_machine", "row_machine", defArgs sRowM, defBody sRowM, defScope sRowM, [], []⟩
def d_machine_of : He.DefD := ⟨("machine_of", none), "machine_of", "machine_of", defArgs sMOf, defBody sMOf, defScope sMOf, [.int 400], []⟩
def d_law_box : He.DefD := ⟨("_law_box", none), "_law_box", "_law_box", defArgs sLBox, defBody sLBox, defScope sLBox, [], []⟩
def d_law_take : He.DefD := ⟨("_law_take", none), "_law_take", "_law_take", defArgs sLTake, defBody sLTake, defScope sLTake, [], []⟩
def d_law_letters : He.DefD := ⟨("_law_letters", none), "_law_letters", "_law_letters", defArgs sLLetters, defBody sLLetters, defScope sLLetters, [], []⟩
def d_law_text : He.DefD := ⟨("_law_text", none), "_law_text", "_law_text", defArgs sLText, defBody sLText, defScope sLText, [], []⟩
def d_law_row_at : He.DefD := ⟨("_law_row_at", none), "_law_row_at", "_law_row_at", defArgs sLRowAt, defBody sLRowAt, defScope sLRowAt, [], []⟩
def d_law_expression : He.DefD := ⟨("_law_expression", none), "_law_expression", "_law_expression", defArgs sLExpression, defBody sLExpression, defScope sLExpression, [], []⟩
def d_law_told_rows : He.DefD := ⟨("_law_told_rows", none), "_law_told_rows", "_law_told_rows", defArgs sLToldRows, defBody sLToldRows, defScope sLToldRows, [], []⟩
def d_law_tells : He.DefD := ⟨("_law_tells", none), "_law_tells", "_law_tells", defArgs sLTells, defBody sLTells, defScope sLTells, [], []⟩
def d_law_led : He.DefD := ⟨("_law_led", none), "_law_led", "_law_led", defArgs sLLed, defBody sLLed, defScope sLLed, [], []⟩
def d_law_lets : He.DefD := ⟨("_law_lets", none), "_law_lets", "_law_lets", defArgs sLLets, defBody sLLets, defScope sLLets, [], []⟩
def d_law_numbered : He.DefD := ⟨("_law_numbered", none), "_law_numbered", "_law_numbered", defArgs sLNumbered, defBody sLNumbered, defScope sLNumbered, [], []⟩
def d_law_least : He.DefD := ⟨("_law_least", none), "_law_least", "_law_least", defArgs sLLeast, defBody sLLeast, defScope sLLeast, [], []⟩
def d_law_first : He.DefD := ⟨("_law_first", none), "_law_first", "_law_first", defArgs sLFirst, defBody sLFirst, defScope sLFirst, [], []⟩
def d_law_onward : He.DefD := ⟨("_law_onward", none), "_law_onward", "_law_onward", defArgs sLOnward, defBody sLOnward, defScope sLOnward, [], []⟩
def d_law_has_yes : He.DefD := ⟨("_law_has_yes", none), "_law_has_yes", "_law_has_yes", defArgs sLHasYes, defBody sLHasYes, defScope sLHasYes, [], []⟩
def d_law_grown : He.DefD := ⟨("_law_grown", none), "_law_grown", "_law_grown", defArgs sLGrown, defBody sLGrown, defScope sLGrown, [], []⟩
def d_law_made : He.DefD := ⟨("_law_made", none), "_law_made", "_law_made", defArgs sLMade, defBody sLMade, defScope sLMade, [], []⟩
def d_law_refused_at : He.DefD := ⟨("_law_refused_at", none), "_law_refused_at", "_law_refused_at", defArgs sLRefusedAt, defBody sLRefusedAt, defScope sLRefusedAt, [], []⟩
def d_law_is_machine : He.DefD := ⟨("_law_is_machine", none), "_law_is_machine", "_law_is_machine", defArgs sLIsMachine, defBody sLIsMachine, defScope sLIsMachine, [], []⟩
def d_law_alike : He.DefD := ⟨("_law_alike", none), "_law_alike", "_law_alike", defArgs sLAlike, defBody sLAlike, defScope sLAlike, [], []⟩
def d_law : He.DefD := ⟨("law", none), "law", "law", defArgs sLaw, defBody sLaw, defScope sLaw, [], []⟩
def d_init : He.DefD := ⟨("TooMany", some "__init__"), "__init__", "TooMany.__init__", defArgs sTooManyI, defBody sTooManyI, defScope sTooManyI, [], []⟩
def dfn : List He.DefD := ([d_init, d_grown_from, d_come_up, d_parted_rooms, d_least_of, d_least, d_no_of, d_check_letters, d_machine_of_rooms, d_paired, d_both_of, d_either_of, d_behind_of, d_plain_machine, d_row_machine, d_machine_of, d_law_box, d_law_take, d_law_letters, d_law_text] : List He.DefD) ++ ([d_law_row_at, d_law_expression, d_law_told_rows, d_law_tells, d_law_led, d_law_lets, d_law_numbered, d_law_least, d_law_first, d_law_onward, d_law_has_yes, d_law_grown, d_law_made, d_law_refused_at, d_law_is_machine, d_law_alike, d_law] : List He.DefD)
def dfa : List He.Fa := ([.glo "CalmError", .glo "TooMany", .glo "grown_from", .glo "come_up", .glo "parted_rooms", .glo "least_of", .glo "least", .glo "no_of", .glo "check_letters", .glo "machine_of_rooms", .glo "paired", .glo "both_of", .glo "either_of", .glo "behind_of", .glo "plain_machine", .glo "row_machine", .glo "machine_of", .glo "_law_box", .glo "_law_take", .glo "_law_letters"] : List He.Fa) ++ (([.glo "_law_text", .glo "_law_row_at", .glo "_law_expression", .glo "_law_told_rows", .glo "_law_tells", .glo "_law_led", .glo "_law_lets", .glo "_law_numbered", .glo "_law_least", .glo "_law_first", .glo "_law_onward", .glo "_law_has_yes", .glo "_law_grown", .glo "_law_made", .glo "_law_refused_at", .glo "_law_is_machine", .glo "_law_alike", .glo "law"] : List He.Fa) ++ ([.free "len", .free "set", .free "dict", .free "int", .free "tuple", .free "list", .free "range", .free "sorted", .free "any", .free "all", .free "enumerate", .free "isinstance", .free "bool"] : List He.Fa))
def dtf : List He.Defn := [("paired", none), ("behind_of", none)]
/-- the class object at C is an own exception's over ValueError -/
def oexB (K : PySem.W.Frag) (C : Addr) : Bool := match K.lookup C with
  | some ⟨.type "type", _, .cls cd, sl⟩ => (match cd.mro, sl.toList with
    | .ref C' :: bm, [_, _, _, _, some (.builtin n), _] => C' == C && n == "ValueError.__new__" && !cd.hasDel && cd.hasDict && PySem.HandSPX.refsVE bm
    | _, _ => false)
  | _ => false
theorem oexB_ok {K : PySem.W.Frag} {C : Addr} (q : oexB K C = true) : ∃ nm q N bs bm sn sub ab col dd k0 k1 k2 k3 k5, K.lookup C = some (excClassObj nm q C N bs bm true sn sub ab col dd k0 k1 k2 k3 k5 "ValueError.__new__") ∧ PySem.HandSPX.refsVE bm = true := by
  unfold oexB at q
  split at q
  · rename_i dd cd sl ho
    split at q
    · rename_i C' bm k0 k1 k2 k3 n k5 hm hs
      simp only [Bool.and_eq_true, beq_iff_eq, Bool.not_eq_true'] at q
      obtain ⟨⟨⟨⟨rfl, rfl⟩, hdel⟩, hdict⟩, ht⟩ := q
      obtain ⟨nm, bs, mro, ns, qn, hd, sn, sub, ab, col, del⟩ := cd
      dsimp only at hm hdel hdict
      subst hm hdel hdict
      have hsl : sl = #[k0, k1, k2, k3, some (.builtin "ValueError.__new__"), k5] := by
        obtain ⟨l⟩ := sl
        simp only at hs
        rw [hs]
      subst hsl
      exact ⟨nm, qn, ns, bs, bm, sn, sub, ab, col, dd, k0, k1, k2, k3, k5, ho, ht⟩
    · cases q
  · cases q
/-- what is asked of TooMany, CalmError and the two tables -/
def dex (K : PySem.W.Frag) : Bool :=
  (oexB K (He.ga K "TooMany") && decide (PySem.W.findIn K (.ref (He.ga K "TooMany")) "__setattr__" = some (some (.builtin "object.__setattr__"))) && decide (PySem.W.subIn K (.ref (He.ga K "TooMany")) (.type "BaseException") = some true) && decide (PySem.W.typeIn K (.ref (He.ga K "TooMany")) = some (.type "type")) && PySem.W.keepIn K (.ref (He.ga K "TooMany"))) &&
  (decide (PySem.W.findIn K (.ref (He.ga K "TooMany")) "__init__" = some (some (.ref (He.fAd K ("TooMany", some "__init__"))))) && decide (PySem.W.typeIn K (.ref (He.fAd K ("TooMany", some "__init__"))) = some (.type "function")) && decide (PySem.W.findIn K (.ref (He.ga K "TooMany")) "at" = some none)) &&
  (decide (PySem.W.specialIn K (.ref (He.ga K "CalmError")) "__getattribute__" = some (some (.builtin "type.__getattribute__"))) && decide (PySem.W.typeIn K (.ref (He.ga K "CalmError")) = some (.type "type")) && PySem.W.readsIn K (He.ga K "CalmError") (.type "type") &&
    (match PySem.W.findCls K (.ref (He.ga K "CalmError")) (.type "type") "__init__" with
      | some (.val (.builtin n)) => decide (n = "ValueError.__init__")
      | _ => false)) &&
  (decide (PySem.W.exmOne K (.ref (He.ga K "TooMany")) (.ref (He.ga K "TooMany")) = some true) && xfB K (He.ga K "TooMany") && !((He.cT K ("paired", none)).2 == (He.cT K ("behind_of", none)).2))
abbrev HR : PySem.W.OpenRow := PySem.W.OpenLaw.row PySem.Challenge.rw_calmword_k23_whole_machines_tell_the_sam
/-! ### the Hook: what the names reach, and the interpreter's own statics -/
def zK (g : Addr → Option Obj) : PySem.W.Frag := He.frT g (He5.asA g 5)
def zObs (g : Addr → Option Obj) : He.AlX := (He.obsT dfa dfn [] (zK g), dex (zK g) && He.tabsB g dtf (zK g))
theorem zTab {g : Addr → Option Obj} {as : List Addr} {p : He.Defn} (q : He.tabsB g dtf (He.frT g as) = true) (hp : p ∈ dtf) :
    PySem.W.codeHdIn (He.frT g as) (He.cT (He.frT g as) p).1 (He.cT (He.frT g as) p).2 = true ∧ g (He.cT (He.frT g as) p).2 = some { cls := .none, data := .fields #[] } ∧ (He.frT g as).lookup (He.cT (He.frT g as) p).2 = none := by
  unfold He.tabsB at q
  have z := List.all_eq_true.mp q p hp
  revert z
  generalize (He.cT (He.frT g as) p).2 = t
  intro z
  cases e : g t with
  | none =>
    rw [e, Bool.and_false] at z
    cases z
  | some o =>
    rw [e] at z
    have z2 := Bool.and_eq_true_iff.mp z
    exact ⟨z2.1, by rw [He.emptyTab_eq z2.2], He.frT_none e z2.2⟩
def zHook : PySem.W.Hook where
  α := He.AlX
  obs := fun s => zObs s.heap.get?
  val := fun w => He.valX dfn [] w
  says := fun w h => ∃ K : PySem.W.Frag, K.In h ∧ He.SaysX dfa dfn [] dtf dex w h K
  of := fun w s e => by
    have e1 : He.obsT dfa dfn [] (zK s.heap.get?) = He.valT dfn [] w := congrArg Prod.fst e
    have e2 := Bool.and_eq_true_iff.mp (show (dex (zK s.heap.get?) && He.tabsB s.heap.get? dtf (zK s.heap.get?)) = true from congrArg Prod.snd e)
    exact ⟨zK s.heap.get?, He.frT_in, { t := e1, more := e2.1, hd := fun p hp => (zTab e2.2 hp).1, out := fun p hp => (zTab e2.2 hp).2.2, empty := fun p hp => (zTab e2.2 hp).2.1 }⟩
  keeps := fun w a b ⟨K, i, c⟩ k => ⟨K, PySem.W.Frag.In.keeps i k, { t := c.t, more := c.more, hd := c.hd, out := c.out, empty := fun p hp => k _ _ (c.empty p hp) }⟩
def zOb (s : PySem.W.SharedT) : He.AlX := zObs (HandSHeadRun.getT s)
theorem zOb_eq (s : PySem.W.SharedT) : zOb s = zHook.obs s.abs := by
  have e : HandSHeadRun.getT s = s.abs.heap.get? := funext (HandSHeadRun.getT_eq s)
  unfold zOb
  rw [e]
  rfl
def hloose : List Str := (["CalmError", "OtherLetters", "TooMany", "grown_from", "come_up", "parted_rooms", "least_of", "least", "no_of", "check_letters", "machine_of_rooms", "paired", "both_of", "either_of", "behind_of", "plain_machine", "row_machine", "machine_of", "_law_box", "_law_take"] : List Str) ++ (["_law_letters", "_law_text", "_law_row_at", "_law_expression", "_law_told_rows", "_law_tells", "_law_led", "_law_lets", "_law_numbered", "_law_least", "_law_first", "_law_onward", "_law_has_yes", "_law_grown", "_law_made", "_law_refused_at", "_law_is_machine", "_law_alike"] : List Str)
theorem zRun (w : World) : HandSHeadRun.RunEq HR (PySem.W.view HR.prog [44]) zHook zOb 2000 hloose w := by
  intro os
  kernel_rfl
end Cw
set_option Elab.async false
set_option linter.all false
set_option maxRecDepth 100000
set_option maxHeartbeats 0
/-! The end: the facts of the head, put together; the law. -/
namespace Cw
open PySem PySem.Spec PyProof.Rows L2 Kw NdefX LamX
theorem code_cT {K : PySem.W.Frag} {p : He.Defn} {x q : Str} {ps : Arguments} {b : List Stmt} {sc : Scope} {dv : List V} {kw : List (Str × V)} {fd : FuncData} (F : FunD K x q ps b sc dv kw (He.fAd K p) fd) : fd.code = .ref (He.cT K p).1 := by
  obtain ⟨oc, od, d1, k1, doc, pm, an, cdv, ct, osl, e, lk, hcd, _, _⟩ := F.ex
  obtain ⟨c, hc⟩ := He.codeIn_ref hcd
  have e1 : fd.code = .ref c := by rw [e]; exact hc
  have e2 : He.codeOf K p = c := He.codeOf_eq lk e1
  rw [e1]
  show Value.ref c = Value.ref (He.codeOf K p)
  rw [e2]
theorem vals_nil {ds : List Value} (v : Vals ([] : List V) ds) : ds = [] := by
  cases v
  rfl
theorem dex_ok {K : PySem.W.Frag} {mg : Str → Option Value} (q : dex K = true) (gC : mg "TooMany" = some (.ref (He.ga K "TooMany"))) (gB : mg "CalmError" = some (.ref (He.ga K "CalmError"))) :
    TmTxt K mg (He.ga K "CalmError") (He.ga K "TooMany") (He.fAd K ("TooMany", some "__init__")) ∧ (He.cT K ("paired", none)).2 ≠ (He.cT K ("behind_of", none)).2 := by
  unfold dex at q
  simp only [Bool.and_eq_true, decide_eq_true_eq, Bool.not_eq_true', beq_eq_false_iff_ne] at q
  obtain ⟨⟨⟨⟨⟨⟨⟨a1, a2⟩, a3⟩, a4⟩, a5⟩, ⟨⟨b1, b2⟩, b3⟩⟩, ⟨⟨⟨c1, c2⟩, c3⟩, c4⟩⟩, ⟨⟨d1, d2⟩, d3⟩⟩ := q
  refine ⟨{ T := ⟨oexB_ok a1, a2, a3, a4, a5⟩, gC := gC, gB := gB, iC := b1, tI := b2, noAt := b3, bGa := c1, bTy := c2, bRd := c3, bIn := ?_, te := d1, xf := xfB_ok d2 }, d3⟩
  split at c4
  · rename_i n e
    rw [e, of_decide_eq_true c4]
  · cases c4
theorem facts {P : Program} {w : World} {K : PySem.W.Frag} {h : Heap} {mg : Str → Option Value} {f : Addr} (X : K.In h) (G : h.Ns mainGlobals mg) (hfa : mg ("law" : Str) = some (.ref f)) (c : He.SaysX dfa dfn [] dtf dex w h K) :
    ∃ (fd : FuncData), (∀ (s : Shared) (v : Value), BindsTo s fd ⟨[v], []⟩ [("_law_script", v)]) ∧ ((He.cT K ("paired", none)).2 ≠ (He.cT K ("behind_of", none)).2) ∧
      ∀ base : Heap, K.In base → base.Ns mainGlobals mg → TabB base mg (He.cT K ("paired", none)).1 (He.cT K ("paired", none)).2 → TabB base mg (He.cT K ("behind_of", none)).1 (He.cT K ("behind_of", none)).2 →
        FnOk P w K mg base CX0 9 f fd ["_law_script"] (spLaw K [((He.cT K ("paired", none)).2, nmP), ((He.cT K ("behind_of", none)).2, nmB)]) := by
  have d := c.t.d
  have g_CalmError : mg "CalmError" = some (.ref (He.ga K "CalmError")) := He.glo_ok X G (d.fact 0 (f := .glo "CalmError") rfl)
  have g_TooMany : mg "TooMany" = some (.ref (He.ga K "TooMany")) := He.glo_ok X G (d.fact 1 (f := .glo "TooMany") rfl)
  have mlen : mg "len" = none := He.free_ok X G (d.fact 38 (f := .free "len") rfl)
  have mset : mg "set" = none := He.free_ok X G (d.fact 39 (f := .free "set") rfl)
  have mdict : mg "dict" = none := He.free_ok X G (d.fact 40 (f := .free "dict") rfl)
  have mint : mg "int" = none := He.free_ok X G (d.fact 41 (f := .free "int") rfl)
  have mtup : mg "tuple" = none := He.free_ok X G (d.fact 42 (f := .free "tuple") rfl)
  have mlist : mg "list" = none := He.free_ok X G (d.fact 43 (f := .free "list") rfl)
  have mrng : mg "range" = none := He.free_ok X G (d.fact 44 (f := .free "range") rfl)
  have msor : mg "sorted" = none := He.free_ok X G (d.fact 45 (f := .free "sorted") rfl)
  have many : mg "any" = none := He.free_ok X G (d.fact 46 (f := .free "any") rfl)
  have mall : mg "all" = none := He.free_ok X G (d.fact 47 (f := .free "all") rfl)
  have menum : mg "enumerate" = none := He.free_ok X G (d.fact 48 (f := .free "enumerate") rfl)
  have misi : mg "isinstance" = none := He.free_ok X G (d.fact 49 (f := .free "isinstance") rfl)
  have mbool : mg "bool" = none := He.free_ok X G (d.fact 50 (f := .free "bool") rfl)
  obtain ⟨fd_init, D_init0⟩ := d.def_ 0 (d := d_init) rfl
  have D_init : FunD K "__init__" "TooMany.__init__" (defArgs sTooManyI) (defBody sTooManyI) (defScope sTooManyI) [] [] (He.fAd K ("TooMany", some "__init__")) fd_init := D_init0
  have F_init : Fun K "__init__" "TooMany.__init__" sTooManyI (He.fAd K ("TooMany", some "__init__")) fd_init := He5.fun_of D_init
  have b_init : Binds K fd_init ["self", "at"] [] := D_init.bindsN fun _ _ _ _ _ _ us hl => match us, hl with | [_, _], _ => rfl
  have g_grown_from : mg "grown_from" = some (.ref (He.ga K "grown_from")) := He.glo_ok X G (d.fact 2 (f := .glo "grown_from") rfl)
  obtain ⟨fd_grown_from, D_grown_from0⟩ := d.def_ 1 (d := d_grown_from) rfl
  have D_grown_from : FunD K "grown_from" "grown_from" (defArgs sGrown) (defBody sGrown) (defScope sGrown) [] [] (He.ga K "grown_from") fd_grown_from := D_grown_from0
  have k_grown_from := D_grown_from.kp
  have F_grown_from : Fun K "grown_from" "grown_from" sGrown (He.ga K "grown_from") fd_grown_from := He5.fun_of D_grown_from
  have b_grown_from : Binds K fd_grown_from ["first", "many", "onward", "is_yes", "most"] [] := D_grown_from.bindsN fun _ _ _ _ _ _ us hl => match us, hl with | [_, _, _, _, _], _ => rfl
  have g_come_up : mg "come_up" = some (.ref (He.ga K "come_up")) := He.glo_ok X G (d.fact 3 (f := .glo "come_up") rfl)
  obtain ⟨fd_come_up, D_come_up0⟩ := d.def_ 2 (d := d_come_up) rfl
  have D_come_up : FunD K "come_up" "come_up" (defArgs sCome) (defBody sCome) (defScope sCome) [] [] (He.ga K "come_up") fd_come_up := D_come_up0
  have k_come_up := D_come_up.kp
  have F_come_up : Fun K "come_up" "come_up" sCome (He.ga K "come_up") fd_come_up := He5.fun_of D_come_up
  have b_come_up : Binds K fd_come_up ["moves"] [] := D_come_up.bindsN fun _ _ _ _ _ _ us hl => match us, hl with | [_], _ => rfl
  have g_parted_rooms : mg "parted_rooms" = some (.ref (He.ga K "parted_rooms")) := He.glo_ok X G (d.fact 4 (f := .glo "parted_rooms") rfl)
  obtain ⟨fd_parted_rooms, D_parted_rooms0⟩ := d.def_ 3 (d := d_parted_rooms) rfl
  have D_parted_rooms : FunD K "parted_rooms" "parted_rooms" (defArgs sParted) (defBody sParted) (defScope sParted) [] [] (He.ga K "parted_rooms") fd_parted_rooms := D_parted_rooms0
  have k_parted_rooms := D_parted_rooms.kp
  have F_parted_rooms : Fun K "parted_rooms" "parted_rooms" sParted (He.ga K "parted_rooms") fd_parted_rooms := He5.fun_of D_parted_rooms
  have b_parted_rooms : Binds K fd_parted_rooms ["moves", "yes", "rooms"] [] := D_parted_rooms.bindsN fun _ _ _ _ _ _ us hl => match us, hl with | [_, _, _], _ => rfl
  have g_least_of : mg "least_of" = some (.ref (He.ga K "least_of")) := He.glo_ok X G (d.fact 5 (f := .glo "least_of") rfl)
  obtain ⟨fd_least_of, D_least_of0⟩ := d.def_ 4 (d := d_least_of) rfl
  have D_least_of : FunD K "least_of" "least_of" (defArgs sLeastOf) (defBody sLeastOf) (defScope sLeastOf) [] [] (He.ga K "least_of") fd_least_of := D_least_of0
  have k_least_of := D_least_of.kp
  have F_least_of : Fun K "least_of" "least_of" sLeastOf (He.ga K "least_of") fd_least_of := He5.fun_of D_least_of
  have b_least_of : Binds K fd_least_of ["moves", "yes"] [] := D_least_of.bindsN fun _ _ _ _ _ _ us hl => match us, hl with | [_, _], _ => rfl
  have g_least : mg "least" = some (.ref (He.ga K "least")) := He.glo_ok X G (d.fact 6 (f := .glo "least") rfl)
  obtain ⟨fd_least, D_least0⟩ := d.def_ 5 (d := d_least) rfl
  have D_least : FunD K "least" "least" (defArgs sLeast) (defBody sLeast) (defScope sLeast) [] [] (He.ga K "least") fd_least := D_least0
  have k_least := D_least.kp
  have F_least : Fun K "least" "least" sLeast (He.ga K "least") fd_least := He5.fun_of D_least
  have b_least : Binds K fd_least ["machine"] [] := D_least.bindsN fun _ _ _ _ _ _ us hl => match us, hl with | [_], _ => rfl
  have g_no_of : mg "no_of" = some (.ref (He.ga K "no_of")) := He.glo_ok X G (d.fact 7 (f := .glo "no_of") rfl)
  obtain ⟨fd_no_of, D_no_of0⟩ := d.def_ 6 (d := d_no_of) rfl
  have D_no_of : FunD K "no_of" "no_of" (defArgs sNoOf) (defBody sNoOf) (defScope sNoOf) [] [] (He.ga K "no_of") fd_no_of := D_no_of0
  have k_no_of := D_no_of.kp
  have F_no_of : Fun K "no_of" "no_of" sNoOf (He.ga K "no_of") fd_no_of := He5.fun_of D_no_of
  have b_no_of : Binds K fd_no_of ["machine"] [] := D_no_of.bindsN fun _ _ _ _ _ _ us hl => match us, hl with | [_], _ => rfl
  have g_check_letters : mg "check_letters" = some (.ref (He.ga K "check_letters")) := He.glo_ok X G (d.fact 8 (f := .glo "check_letters") rfl)
  obtain ⟨fd_check_letters, D_check_letters0⟩ := d.def_ 7 (d := d_check_letters) rfl
  have D_check_letters : FunD K "check_letters" "check_letters" (defArgs sCheck) (defBody sCheck) (defScope sCheck) [] [] (He.ga K "check_letters") fd_check_letters := D_check_letters0
  have k_check_letters := D_check_letters.kp
  have F_check_letters : Fun K "check_letters" "check_letters" sCheck (He.ga K "check_letters") fd_check_letters := He5.fun_of D_check_letters
  have b_check_letters : Binds K fd_check_letters ["one", "other"] [] := D_check_letters.bindsN fun _ _ _ _ _ _ us hl => match us, hl with | [_, _], _ => rfl
  have g_machine_of_rooms : mg "machine_of_rooms" = some (.ref (He.ga K "machine_of_rooms")) := He.glo_ok X G (d.fact 9 (f := .glo "machine_of_rooms") rfl)
  obtain ⟨fd_machine_of_rooms, D_machine_of_rooms0⟩ := d.def_ 8 (d := d_machine_of_rooms) rfl
  have D_machine_of_rooms : FunD K "machine_of_rooms" "machine_of_rooms" (defArgs sMRooms) (defBody sMRooms) (defScope sMRooms) [] [] (He.ga K "machine_of_rooms") fd_machine_of_rooms := D_machine_of_rooms0
  have k_machine_of_rooms := D_machine_of_rooms.kp
  have F_machine_of_rooms : Fun K "machine_of_rooms" "machine_of_rooms" sMRooms (He.ga K "machine_of_rooms") fd_machine_of_rooms := He5.fun_of D_machine_of_rooms
  have b_machine_of_rooms : Binds K fd_machine_of_rooms ["letters", "grown"] [] := D_machine_of_rooms.bindsN fun _ _ _ _ _ _ us hl => match us, hl with | [_, _], _ => rfl
  have g_paired : mg "paired" = some (.ref (He.ga K "paired")) := He.glo_ok X G (d.fact 10 (f := .glo "paired") rfl)
  obtain ⟨fd_paired, D_paired0⟩ := d.def_ 9 (d := d_paired) rfl
  have D_paired : FunD K "paired" "paired" (defArgs sPaired) (defBody sPaired) (defScope sPaired) [] [] (He.ga K "paired") fd_paired := D_paired0
  have k_paired := D_paired.kp
  have F_paired : Fun K "paired" "paired" sPaired (He.ga K "paired") fd_paired := He5.fun_of D_paired
  have b_paired : Binds K fd_paired ["one", "other", "most", "is_either"] [] := D_paired.bindsN fun _ _ _ _ _ _ us hl => match us, hl with | [_, _, _, _], _ => rfl
  have g_both_of : mg "both_of" = some (.ref (He.ga K "both_of")) := He.glo_ok X G (d.fact 11 (f := .glo "both_of") rfl)
  obtain ⟨fd_both_of, D_both_of0⟩ := d.def_ 10 (d := d_both_of) rfl
  have D_both_of : FunD K "both_of" "both_of" (defArgs sBoth) (defBody sBoth) (defScope sBoth) [.int 400] [] (He.ga K "both_of") fd_both_of := D_both_of0
  have k_both_of := D_both_of.kp
  have b_both_of : Binds K fd_both_of ["one", "other", "most"] [] := by
    obtain ⟨ds, v, b⟩ := D_both_of.binds1 (ps := ["one", "other", "most"]) 3 1 (by simp) rfl (fun _ _ _ _ _ _ _ us its hl hi => match us, its, hl, hi with | [_, _, _], [_], _, _ => ⟨_, rfl, rfl⟩)
    rw [vals_nil v] at b
    exact b
  have g_either_of : mg "either_of" = some (.ref (He.ga K "either_of")) := He.glo_ok X G (d.fact 12 (f := .glo "either_of") rfl)
  obtain ⟨fd_either_of, D_either_of0⟩ := d.def_ 11 (d := d_either_of) rfl
  have D_either_of : FunD K "either_of" "either_of" (defArgs sEither) (defBody sEither) (defScope sEither) [.int 400] [] (He.ga K "either_of") fd_either_of := D_either_of0
  have k_either_of := D_either_of.kp
  have b_either_of : Binds K fd_either_of ["one", "other", "most"] [] := by
    obtain ⟨ds, v, b⟩ := D_either_of.binds1 (ps := ["one", "other", "most"]) 3 1 (by simp) rfl (fun _ _ _ _ _ _ _ us its hl hi => match us, its, hl, hi with | [_, _, _], [_], _, _ => ⟨_, rfl, rfl⟩)
    rw [vals_nil v] at b
    exact b
  have g_behind_of : mg "behind_of" = some (.ref (He.ga K "behind_of")) := He.glo_ok X G (d.fact 13 (f := .glo "behind_of") rfl)
  obtain ⟨fd_behind_of, D_behind_of0⟩ := d.def_ 12 (d := d_behind_of) rfl
  have D_behind_of : FunD K "behind_of" "behind_of" (defArgs sBehind) (defBody sBehind) (defScope sBehind) [.int 400] [] (He.ga K "behind_of") fd_behind_of := D_behind_of0
  have k_behind_of := D_behind_of.kp
  have b_behind_of : Binds K fd_behind_of ["one", "other", "most"] [] := by
    obtain ⟨ds, v, b⟩ := D_behind_of.binds1 (ps := ["one", "other", "most"]) 3 1 (by simp) rfl (fun _ _ _ _ _ _ _ us its hl hi => match us, its, hl, hi with | [_, _, _], [_], _, _ => ⟨_, rfl, rfl⟩)
    rw [vals_nil v] at b
    exact b
  have g_plain_machine : mg "plain_machine" = some (.ref (He.ga K "plain_machine")) := He.glo_ok X G (d.fact 14 (f := .glo "plain_machine") rfl)
  obtain ⟨fd_plain_machine, D_plain_machine0⟩ := d.def_ 13 (d := d_plain_machine) rfl
  have D_plain_machine : FunD K "plain_machine" "plain_machine" (defArgs sPlain) (defBody sPlain) (defScope sPlain) [] [] (He.ga K "plain_machine") fd_plain_machine := D_plain_machine0
  have k_plain_machine := D_plain_machine.kp
  have F_plain_machine : Fun K "plain_machine" "plain_machine" sPlain (He.ga K "plain_machine") fd_plain_machine := He5.fun_of D_plain_machine
  have b_plain_machine : Binds K fd_plain_machine ["letters", "row"] [] := D_plain_machine.bindsN fun _ _ _ _ _ _ us hl => match us, hl with | [_, _], _ => rfl
  have g_row_machine : mg "row_machine" = some (.ref (He.ga K "row_machine")) := He.glo_ok X G (d.fact 15 (f := .glo "row_machine") rfl)
  obtain ⟨fd_row_machine, D_row_machine0⟩ := d.def_ 14 (d := d_row_machine) rfl
  have D_row_machine : FunD K "row_machine" "row_machine" (defArgs sRowM) (defBody sRowM) (defScope sRowM) [] [] (He.ga K "row_machine") fd_row_machine := D_row_machine0
  have k_row_machine := D_row_machine.kp
  have F_row_machine : Fun K "row_machine" "row_machine" sRowM (He.ga K "row_machine") fd_row_machine := He5.fun_of D_row_machine
  have b_row_machine : Binds K fd_row_machine ["letters", "row", "made", "most"] [] := D_row_machine.bindsN fun _ _ _ _ _ _ us hl => match us, hl with | [_, _, _, _], _ => rfl
  have g_machine_of : mg "machine_of" = some (.ref (He.ga K "machine_of")) := He.glo_ok X G (d.fact 16 (f := .glo "machine_of") rfl)
  obtain ⟨fd_machine_of, D_machine_of0⟩ := d.def_ 15 (d := d_machine_of) rfl
  have D_machine_of : FunD K "machine_of" "machine_of" (defArgs sMOf) (defBody sMOf) (defScope sMOf) [.int 400] [] (He.ga K "machine_of") fd_machine_of := D_machine_of0
  have k_machine_of := D_machine_of.kp
  have b_machine_of : Binds K fd_machine_of ["letters", "expression", "most"] [] := by
    obtain ⟨ds, v, b⟩ := D_machine_of.binds1 (ps := ["letters", "expression", "most"]) 3 1 (by simp) rfl (fun _ _ _ _ _ _ _ us its hl hi => match us, its, hl, hi with | [_, _, _], [_], _, _ => ⟨_, rfl, rfl⟩)
    rw [vals_nil v] at b
    exact b
  have g_law_box : mg "_law_box" = some (.ref (He.ga K "_law_box")) := He.glo_ok X G (d.fact 17 (f := .glo "_law_box") rfl)
  obtain ⟨fd_law_box, D_law_box0⟩ := d.def_ 16 (d := d_law_box) rfl
  have D_law_box : FunD K "_law_box" "_law_box" (defArgs sLBox) (defBody sLBox) (defScope sLBox) [] [] (He.ga K "_law_box") fd_law_box := D_law_box0
  have k_law_box := D_law_box.kp
  have F_law_box : Fun K "_law_box" "_law_box" sLBox (He.ga K "_law_box") fd_law_box := He5.fun_of D_law_box
  have b_law_box : Binds K fd_law_box ["_law_script", "_law_k"] [] := D_law_box.bindsN fun _ _ _ _ _ _ us hl => match us, hl with | [_, _], _ => rfl
  have g_law_take : mg "_law_take" = some (.ref (He.ga K "_law_take")) := He.glo_ok X G (d.fact 18 (f := .glo "_law_take") rfl)
  obtain ⟨fd_law_take, D_law_take0⟩ := d.def_ 17 (d := d_law_take) rfl
  have D_law_take : FunD K "_law_take" "_law_take" (defArgs sLTake) (defBody sLTake) (defScope sLTake) [] [] (He.ga K "_law_take") fd_law_take := D_law_take0
  have k_law_take := D_law_take.kp
  have F_law_take : Fun K "_law_take" "_law_take" sLTake (He.ga K "_law_take") fd_law_take := He5.fun_of D_law_take
  have b_law_take : Binds K fd_law_take ["_law_box_here", "_law_wide"] [] := D_law_take.bindsN fun _ _ _ _ _ _ us hl => match us, hl with | [_, _], _ => rfl
  have g_law_letters : mg "_law_letters" = some (.ref (He.ga K "_law_letters")) := He.glo_ok X G (d.fact 19 (f := .glo "_law_letters") rfl)
  obtain ⟨fd_law_letters, D_law_letters0⟩ := d.def_ 18 (d := d_law_letters) rfl
  have D_law_letters : FunD K "_law_letters" "_law_letters" (defArgs sLLetters) (defBody sLLetters) (defScope sLLetters) [] [] (He.ga K "_law_letters") fd_law_letters := D_law_letters0
  have k_law_letters := D_law_letters.kp
  have F_law_letters : Fun K "_law_letters" "_law_letters" sLLetters (He.ga K "_law_letters") fd_law_letters := He5.fun_of D_law_letters
  have b_law_letters : Binds K fd_law_letters ["_law_box_here", "_law_most"] [] := D_law_letters.bindsN fun _ _ _ _ _ _ us hl => match us, hl with | [_, _], _ => rfl
  have g_law_text : mg "_law_text" = some (.ref (He.ga K "_law_text")) := He.glo_ok X G (d.fact 20 (f := .glo "_law_text") rfl)
  obtain ⟨fd_law_text, D_law_text0⟩ := d.def_ 19 (d := d_law_text) rfl
  have D_law_text : FunD K "_law_text" "_law_text" (defArgs sLText) (defBody sLText) (defScope sLText) [] [] (He.ga K "_law_text") fd_law_text := D_law_text0
  have k_law_text := D_law_text.kp
  have F_law_text : Fun K "_law_text" "_law_text" sLText (He.ga K "_law_text") fd_law_text := He5.fun_of D_law_text
  have b_law_text : Binds K fd_law_text ["_law_box_here", "_law_letters_here", "_law_most"] [] := D_law_text.bindsN fun _ _ _ _ _ _ us hl => match us, hl with | [_, _, _], _ => rfl
  have g_law_row_at : mg "_law_row_at" = some (.ref (He.ga K "_law_row_at")) := He.glo_ok X G (d.fact 21 (f := .glo "_law_row_at") rfl)
  obtain ⟨fd_law_row_at, D_law_row_at0⟩ := d.def_ 20 (d := d_law_row_at) rfl
  have D_law_row_at : FunD K "_law_row_at" "_law_row_at" (defArgs sLRowAt) (defBody sLRowAt) (defScope sLRowAt) [] [] (He.ga K "_law_row_at") fd_law_row_at := D_law_row_at0
  have k_law_row_at := D_law_row_at.kp
  have F_law_row_at : Fun K "_law_row_at" "_law_row_at" sLRowAt (He.ga K "_law_row_at") fd_law_row_at := He5.fun_of D_law_row_at
  have b_law_row_at : Binds K fd_law_row_at ["_law_box_here", "_law_k"] [] := D_law_row_at.bindsN fun _ _ _ _ _ _ us hl => match us, hl with | [_, _], _ => rfl
  have g_law_expression : mg "_law_expression" = some (.ref (He.ga K "_law_expression")) := He.glo_ok X G (d.fact 22 (f := .glo "_law_expression") rfl)
  obtain ⟨fd_law_expression, D_law_expression0⟩ := d.def_ 21 (d := d_law_expression) rfl
  have D_law_expression : FunD K "_law_expression" "_law_expression" (defArgs sLExpression) (defBody sLExpression) (defScope sLExpression) [] [] (He.ga K "_law_expression") fd_law_expression := D_law_expression0
  have k_law_expression := D_law_expression.kp
  have F_law_expression : Fun K "_law_expression" "_law_expression" sLExpression (He.ga K "_law_expression") fd_law_expression := He5.fun_of D_law_expression
  have b_law_expression : Binds K fd_law_expression ["_law_box_here", "_law_letters_here", "_law_most"] [] := D_law_expression.bindsN fun _ _ _ _ _ _ us hl => match us, hl with | [_, _, _], _ => rfl
  have g_law_told_rows : mg "_law_told_rows" = some (.ref (He.ga K "_law_told_rows")) := He.glo_ok X G (d.fact 23 (f := .glo "_law_told_rows") rfl)
  obtain ⟨fd_law_told_rows, D_law_told_rows0⟩ := d.def_ 22 (d := d_law_told_rows) rfl
  have D_law_told_rows : FunD K "_law_told_rows" "_law_told_rows" (defArgs sLToldRows) (defBody sLToldRows) (defScope sLToldRows) [] [] (He.ga K "_law_told_rows") fd_law_told_rows := D_law_told_rows0
  have k_law_told_rows := D_law_told_rows.kp
  have F_law_told_rows : Fun K "_law_told_rows" "_law_told_rows" sLToldRows (He.ga K "_law_told_rows") fd_law_told_rows := He5.fun_of D_law_told_rows
  have b_law_told_rows : Binds K fd_law_told_rows ["_law_expression_here", "_law_text_here"] [] := D_law_told_rows.bindsN fun _ _ _ _ _ _ us hl => match us, hl with | [_, _], _ => rfl
  have g_law_tells : mg "_law_tells" = some (.ref (He.ga K "_law_tells")) := He.glo_ok X G (d.fact 24 (f := .glo "_law_tells") rfl)
  obtain ⟨fd_law_tells, D_law_tells0⟩ := d.def_ 23 (d := d_law_tells) rfl
  have D_law_tells : FunD K "_law_tells" "_law_tells" (defArgs sLTells) (defBody sLTells) (defScope sLTells) [] [] (He.ga K "_law_tells") fd_law_tells := D_law_tells0
  have k_law_tells := D_law_tells.kp
  have F_law_tells : Fun K "_law_tells" "_law_tells" sLTells (He.ga K "_law_tells") fd_law_tells := He5.fun_of D_law_tells
  have b_law_tells : Binds K fd_law_tells ["_law_expression_here", "_law_text_here"] [] := D_law_tells.bindsN fun _ _ _ _ _ _ us hl => match us, hl with | [_, _], _ => rfl
  have g_law_led : mg "_law_led" = some (.ref (He.ga K "_law_led")) := He.glo_ok X G (d.fact 25 (f := .glo "_law_led") rfl)
  obtain ⟨fd_law_led, D_law_led0⟩ := d.def_ 24 (d := d_law_led) rfl
  have D_law_led : FunD K "_law_led" "_law_led" (defArgs sLLed) (defBody sLLed) (defScope sLLed) [] [] (He.ga K "_law_led") fd_law_led := D_law_led0
  have k_law_led := D_law_led.kp
  have F_law_led : Fun K "_law_led" "_law_led" sLLed (He.ga K "_law_led") fd_law_led := He5.fun_of D_law_led
  have b_law_led : Binds K fd_law_led ["_law_machine", "_law_room", "_law_text_here"] [] := D_law_led.bindsN fun _ _ _ _ _ _ us hl => match us, hl with | [_, _, _], _ => rfl
  have g_law_lets : mg "_law_lets" = some (.ref (He.ga K "_law_lets")) := He.glo_ok X G (d.fact 26 (f := .glo "_law_lets") rfl)
  obtain ⟨fd_law_lets, D_law_lets0⟩ := d.def_ 25 (d := d_law_lets) rfl
  have D_law_lets : FunD K "_law_lets" "_law_lets" (defArgs sLLets) (defBody sLLets) (defScope sLLets) [] [] (He.ga K "_law_lets") fd_law_lets := D_law_lets0
  have k_law_lets := D_law_lets.kp
  have F_law_lets : Fun K "_law_lets" "_law_lets" sLLets (He.ga K "_law_lets") fd_law_lets := He5.fun_of D_law_lets
  have b_law_lets : Binds K fd_law_lets ["_law_machine", "_law_text_here"] [] := D_law_lets.bindsN fun _ _ _ _ _ _ us hl => match us, hl with | [_, _], _ => rfl
  have g_law_numbered : mg "_law_numbered" = some (.ref (He.ga K "_law_numbered")) := He.glo_ok X G (d.fact 27 (f := .glo "_law_numbered") rfl)
  obtain ⟨fd_law_numbered, D_law_numbered0⟩ := d.def_ 26 (d := d_law_numbered) rfl
  have D_law_numbered : FunD K "_law_numbered" "_law_numbered" (defArgs sLNumbered) (defBody sLNumbered) (defScope sLNumbered) [] [] (He.ga K "_law_numbered") fd_law_numbered := D_law_numbered0
  have k_law_numbered := D_law_numbered.kp
  have F_law_numbered : Fun K "_law_numbered" "_law_numbered" sLNumbered (He.ga K "_law_numbered") fd_law_numbered := He5.fun_of D_law_numbered
  have b_law_numbered : Binds K fd_law_numbered ["_law_letters_here", "_law_moves", "_law_yes"] [] := D_law_numbered.bindsN fun _ _ _ _ _ _ us hl => match us, hl with | [_, _, _], _ => rfl
  have g_law_least : mg "_law_least" = some (.ref (He.ga K "_law_least")) := He.glo_ok X G (d.fact 28 (f := .glo "_law_least") rfl)
  obtain ⟨fd_law_least, D_law_least0⟩ := d.def_ 27 (d := d_law_least) rfl
  have D_law_least : FunD K "_law_least" "_law_least" (defArgs sLLeast) (defBody sLLeast) (defScope sLLeast) [] [] (He.ga K "_law_least") fd_law_least := D_law_least0
  have k_law_least := D_law_least.kp
  have F_law_least : Fun K "_law_least" "_law_least" sLLeast (He.ga K "_law_least") fd_law_least := He5.fun_of D_law_least
  have b_law_least : Binds K fd_law_least ["_law_machine"] [] := D_law_least.bindsN fun _ _ _ _ _ _ us hl => match us, hl with | [_], _ => rfl
  have g_law_first : mg "_law_first" = some (.ref (He.ga K "_law_first")) := He.glo_ok X G (d.fact 29 (f := .glo "_law_first") rfl)
  obtain ⟨fd_law_first, D_law_first0⟩ := d.def_ 28 (d := d_law_first) rfl
  have D_law_first : FunD K "_law_first" "_law_first" (defArgs sLFirst) (defBody sLFirst) (defScope sLFirst) [] [] (He.ga K "_law_first") fd_law_first := D_law_first0
  have k_law_first := D_law_first.kp
  have F_law_first : Fun K "_law_first" "_law_first" sLFirst (He.ga K "_law_first") fd_law_first := He5.fun_of D_law_first
  have b_law_first : Binds K fd_law_first ["_law_row", "_law_made_here"] [] := D_law_first.bindsN fun _ _ _ _ _ _ us hl => match us, hl with | [_, _], _ => rfl
  have g_law_onward : mg "_law_onward" = some (.ref (He.ga K "_law_onward")) := He.glo_ok X G (d.fact 30 (f := .glo "_law_onward") rfl)
  obtain ⟨fd_law_onward, D_law_onward0⟩ := d.def_ 29 (d := d_law_onward) rfl
  have D_law_onward : FunD K "_law_onward" "_law_onward" (defArgs sLOnward) (defBody sLOnward) (defScope sLOnward) [] [] (He.ga K "_law_onward") fd_law_onward := D_law_onward0
  have k_law_onward := D_law_onward.kp
  have F_law_onward : Fun K "_law_onward" "_law_onward" sLOnward (He.ga K "_law_onward") fd_law_onward := He5.fun_of D_law_onward
  have b_law_onward : Binds K fd_law_onward ["_law_letters_here", "_law_row", "_law_made_here", "_law_room", "_law_k"] [] := D_law_onward.bindsN fun _ _ _ _ _ _ us hl => match us, hl with | [_, _, _, _, _], _ => rfl
  have g_law_has_yes : mg "_law_has_yes" = some (.ref (He.ga K "_law_has_yes")) := He.glo_ok X G (d.fact 31 (f := .glo "_law_has_yes") rfl)
  obtain ⟨fd_law_has_yes, D_law_has_yes0⟩ := d.def_ 30 (d := d_law_has_yes) rfl
  have D_law_has_yes : FunD K "_law_has_yes" "_law_has_yes" (defArgs sLHasYes) (defBody sLHasYes) (defScope sLHasYes) [] [] (He.ga K "_law_has_yes") fd_law_has_yes := D_law_has_yes0
  have k_law_has_yes := D_law_has_yes.kp
  have F_law_has_yes : Fun K "_law_has_yes" "_law_has_yes" sLHasYes (He.ga K "_law_has_yes") fd_law_has_yes := He5.fun_of D_law_has_yes
  have b_law_has_yes : Binds K fd_law_has_yes ["_law_row", "_law_made_here", "_law_room"] [] := D_law_has_yes.bindsN fun _ _ _ _ _ _ us hl => match us, hl with | [_, _, _], _ => rfl
  have g_law_grown : mg "_law_grown" = some (.ref (He.ga K "_law_grown")) := He.glo_ok X G (d.fact 32 (f := .glo "_law_grown") rfl)
  obtain ⟨fd_law_grown, D_law_grown0⟩ := d.def_ 31 (d := d_law_grown) rfl
  have D_law_grown : FunD K "_law_grown" "_law_grown" (defArgs sLGrown) (defBody sLGrown) (defScope sLGrown) [] [] (He.ga K "_law_grown") fd_law_grown := D_law_grown0
  have k_law_grown := D_law_grown.kp
  have F_law_grown : Fun K "_law_grown" "_law_grown" sLGrown (He.ga K "_law_grown") fd_law_grown := He5.fun_of D_law_grown
  have b_law_grown : Binds K fd_law_grown ["_law_letters_here", "_law_row", "_law_made_here", "_law_most"] [] := D_law_grown.bindsN fun _ _ _ _ _ _ us hl => match us, hl with | [_, _, _, _], _ => rfl
  have g_law_made : mg "_law_made" = some (.ref (He.ga K "_law_made")) := He.glo_ok X G (d.fact 33 (f := .glo "_law_made") rfl)
  obtain ⟨fd_law_made, D_law_made0⟩ := d.def_ 32 (d := d_law_made) rfl
  have D_law_made : FunD K "_law_made" "_law_made" (defArgs sLMade) (defBody sLMade) (defScope sLMade) [] [] (He.ga K "_law_made") fd_law_made := D_law_made0
  have k_law_made := D_law_made.kp
  have F_law_made : Fun K "_law_made" "_law_made" sLMade (He.ga K "_law_made") fd_law_made := He5.fun_of D_law_made
  have b_law_made : Binds K fd_law_made ["_law_letters_here", "_law_rows", "_law_most"] [] := D_law_made.bindsN fun _ _ _ _ _ _ us hl => match us, hl with | [_, _, _], _ => rfl
  have g_law_refused_at : mg "_law_refused_at" = some (.ref (He.ga K "_law_refused_at")) := He.glo_ok X G (d.fact 34 (f := .glo "_law_refused_at") rfl)
  obtain ⟨fd_law_refused_at, D_law_refused_at0⟩ := d.def_ 33 (d := d_law_refused_at) rfl
  have D_law_refused_at : FunD K "_law_refused_at" "_law_refused_at" (defArgs sLRefusedAt) (defBody sLRefusedAt) (defScope sLRefusedAt) [] [] (He.ga K "_law_refused_at") fd_law_refused_at := D_law_refused_at0
  have k_law_refused_at := D_law_refused_at.kp
  have F_law_refused_at : Fun K "_law_refused_at" "_law_refused_at" sLRefusedAt (He.ga K "_law_refused_at") fd_law_refused_at := He5.fun_of D_law_refused_at
  have b_law_refused_at : Binds K fd_law_refused_at ["_law_found", "_law_at"] [] := D_law_refused_at.bindsN fun _ _ _ _ _ _ us hl => match us, hl with | [_, _], _ => rfl
  have g_law_is_machine : mg "_law_is_machine" = some (.ref (He.ga K "_law_is_machine")) := He.glo_ok X G (d.fact 35 (f := .glo "_law_is_machine") rfl)
  obtain ⟨fd_law_is_machine, D_law_is_machine0⟩ := d.def_ 34 (d := d_law_is_machine) rfl
  have D_law_is_machine : FunD K "_law_is_machine" "_law_is_machine" (defArgs sLIsMachine) (defBody sLIsMachine) (defScope sLIsMachine) [] [] (He.ga K "_law_is_machine") fd_law_is_machine := D_law_is_machine0
  have k_law_is_machine := D_law_is_machine.kp
  have F_law_is_machine : Fun K "_law_is_machine" "_law_is_machine" sLIsMachine (He.ga K "_law_is_machine") fd_law_is_machine := He5.fun_of D_law_is_machine
  have b_law_is_machine : Binds K fd_law_is_machine ["_law_machine", "_law_letters_here"] [] := D_law_is_machine.bindsN fun _ _ _ _ _ _ us hl => match us, hl with | [_, _], _ => rfl
  have g_law_alike : mg "_law_alike" = some (.ref (He.ga K "_law_alike")) := He.glo_ok X G (d.fact 36 (f := .glo "_law_alike") rfl)
  obtain ⟨fd_law_alike, D_law_alike0⟩ := d.def_ 35 (d := d_law_alike) rfl
  have D_law_alike : FunD K "_law_alike" "_law_alike" (defArgs sLAlike) (defBody sLAlike) (defScope sLAlike) [] [] (He.ga K "_law_alike") fd_law_alike := D_law_alike0
  have k_law_alike := D_law_alike.kp
  have F_law_alike : Fun K "_law_alike" "_law_alike" sLAlike (He.ga K "_law_alike") fd_law_alike := He5.fun_of D_law_alike
  have b_law_alike : Binds K fd_law_alike ["_law_machine", "_law_grown_here"] [] := D_law_alike.bindsN fun _ _ _ _ _ _ us hl => match us, hl with | [_, _], _ => rfl
  have g_law : mg "law" = some (.ref (He.ga K "law")) := He.glo_ok X G (d.fact 37 (f := .glo "law") rfl)
  obtain ⟨fd_law, D_law0⟩ := d.def_ 36 (d := d_law) rfl
  have D_law : FunD K "law" "law" (defArgs sLaw) (defBody sLaw) (defScope sLaw) [] [] (He.ga K "law") fd_law := D_law0
  have k_law := D_law.kp
  have F_law : Fun K "law" "law" sLaw (He.ga K "law") fd_law := He5.fun_of D_law
  obtain ⟨ds, v_ds, b_ds⟩ := D_machine_of.binds1 (ps := ["letters", "expression", "most"]) 2 0 (by simp) rfl (fun _ _ _ _ _ _ _ us its hl hi => match us, its, hl, hi with | [_, _], [_], _, _ => ⟨_, rfl, rfl⟩)
  obtain ⟨tm, hPB⟩ := dex_ok c.more g_TooMany g_CalmError
  have el := hfa.symm.trans g_law
  cases el
  have hcP : fd_paired.code = .ref (He.cT K ("paired", none)).1 := code_cT D_paired
  have hcB : fd_behind_of.code = .ref (He.cT K ("behind_of", none)).1 := code_cT D_behind_of
  refine ⟨fd_law, fun s v => (D_law.bindsA (ps := ["_law_script"]) fun _ _ _ _ _ _ us hl => match us, hl with | [_], _ => rfl) s [v] rfl, hPB, fun base XB GB TBP TBB => ?_⟩
  generalize (He.cT K ("paired", none)).1 = cP at hcP TBP
  generalize (He.cT K ("behind_of", none)).1 = cB at hcB TBB
  generalize (He.cT K ("paired", none)).2 = tP at TBP hPB ⊢
  generalize (He.cT K ("behind_of", none)).2 = tB at TBB hPB ⊢
  have hmP : (tP, nmP) ∈ ([(tP, nmP), (tB, nmB)] : List NTab) := by simp
  have hmB : (tB, nmB) ∈ ([(tP, nmP), (tB, nmB)] : List NTab) := by simp
  have huP : ∀ p ∈ ([(tP, nmP), (tB, nmB)] : List NTab), p.1 = tP → p.2 = nmP := fun p hp e => by
    simp only [List.mem_cons, List.not_mem_nil, or_false] at hp
    rcases hp with rfl | rfl
    · rfl
    · exact absurd e.symm hPB
  have huB : ∀ p ∈ ([(tP, nmP), (tB, nmB)] : List NTab), p.1 = tB → p.2 = nmB := fun p hp e => by
    simp only [List.mem_cons, List.not_mem_nil, or_false] at hp
    rcases hp with rfl | rfl
    · exact absurd e hPB
    · rfl
  generalize ([(tP, nmP), (tB, nmB)] : List NTab) = T at hmP hmB huP huB ⊢
  have oLO := ok_leastOf (P := P) (w := w) (base := base) F_least_of F_come_up F_parted_rooms b_come_up g_come_up b_parted_rooms g_parted_rooms mlen mset mdict mint mtup
  have oL := ok_least F_least oLO k_least_of b_least_of g_least_of
  have oG1 := ok_grown (P := P) (w := w) (base := base) (j := 1) (by decide) F_grown_from mlen mtup mrng
  have oG2 := ok_grown (P := P) (w := w) (base := base) (j := 2) (by decide) F_grown_from mlen mtup mrng
  have oI := ok_tm (P := P) (w := w) (base := base) F_init tm
  have oIH := ok_tmH (P := P) (w := w) (base := base) F_init tm
  have oNo := ok_no F_no_of oL k_least b_least g_least mtup
  have oCh := ok_check (P := P) (w := w) (mg := mg) (base := base) F_check_letters
  have oMR := ok_mrooms F_machine_of_rooms tm oI b_init oLO k_least_of b_least_of g_least_of
  have oPa := ok_paired F_paired hcP TBP hmP huP oCh k_check_letters b_check_letters g_check_letters oL k_least b_least g_least oG1 k_grown_from b_grown_from g_grown_from oMR k_machine_of_rooms b_machine_of_rooms g_machine_of_rooms mlen
  have oBo := ok_both D_both_of oPa k_paired b_paired g_paired
  have oEi := ok_either D_either_of oPa k_paired b_paired g_paired
  have oBe := ok_behind D_behind_of hcB TBB hmB huB oCh k_check_letters b_check_letters g_check_letters oL k_least b_least g_least oG2 k_grown_from b_grown_from g_grown_from oMR k_machine_of_rooms b_machine_of_rooms g_machine_of_rooms mlen mlist mset msor mtup many
  have oPl := ok_plain F_plain_machine oL k_least b_least g_least mtup mint
  have oRM := ok_rowm F_row_machine ⟨oNo, oEi, oBo, oBe, oPl, k_no_of, k_either_of, k_both_of, k_behind_of, k_plain_machine, b_no_of, b_either_of, b_both_of, b_behind_of, b_plain_machine, g_no_of, g_either_of, g_both_of, g_behind_of, g_plain_machine⟩
  have oMo := ok_mof D_machine_of tm oIH b_init oRM k_row_machine b_row_machine g_row_machine menum
  have oBx := ok_box (P := P) (w := w) (base := base) F_law_box mlen mint
  have oTk := ok_take (P := P) (w := w) (mg := mg) (base := base) F_law_take
  have oLt := ok_letters F_law_letters oTk k_law_take b_law_take g_law_take mlist mrng mlen
  have oTx := ok_text F_law_text oTk k_law_take b_law_take g_law_take mrng mlen
  have oRa := ok_rowat F_law_row_at oTk k_law_take b_law_take g_law_take
  have oEx := ok_expr F_law_expression oTk k_law_take b_law_take g_law_take oRa k_law_row_at b_law_row_at g_law_row_at mrng mlen mtup
  have oTo := ok_told (P := P) (w := w) (base := base) F_law_told_rows mlen mrng mdict
  have oTs := ok_tells F_law_tells oTo k_law_told_rows b_law_told_rows g_law_told_rows mlen
  have oLd := ok_led (P := P) (w := w) (mg := mg) (base := base) F_law_led
  have oLs := ok_lets F_law_lets oLd k_law_led b_law_led g_law_led
  have oNu := ok_numbered (P := P) (w := w) (base := base) F_law_numbered mlen mtup
  have oLe := ok_lleast F_law_least oNu k_law_numbered b_law_numbered g_law_numbered mlen mset mtup mint mrng msor
  have oFi := ok_lfirst (P := P) (w := w) (base := base) F_law_first mint
  have oOn := ok_lonward (P := P) (w := w) (base := base) F_law_onward mint mtup msor mset
  have oYe := ok_lyes (P := P) (w := w) (base := base) F_law_has_yes many
  have oGr := ok_lgrown F_law_grown oFi k_law_first b_law_first g_law_first oOn k_law_onward b_law_onward g_law_onward oYe k_law_has_yes b_law_has_yes g_law_has_yes mlen mtup mrng
  have oMd := ok_lmade F_law_made tm oMo k_machine_of b_machine_of g_machine_of
  have oRf := ok_lref (P := P) (w := w) (base := base) F_law_refused_at misi mint mbool
  have oIs := ok_lis (P := P) (w := w) (base := base) F_law_is_machine misi mint mbool mtup mlen mall
  have oAl := ok_lalike (P := P) (w := w) (base := base) F_law_alike mlen mrng menum
  exact ok_law F_law { oBx := oBx, kBx := k_law_box, bBx := b_law_box, gBx := g_law_box, oTk := oTk, kTk := k_law_take, bTk := b_law_take, gTk := g_law_take, oLt := oLt, kLt := k_law_letters, bLt := b_law_letters, gLt := g_law_letters, oEx := oEx, kEx := k_law_expression, bEx := b_law_expression, gEx := g_law_expression, oGr := oGr, kGr := k_law_grown, bGr := b_law_grown, gGr := g_law_grown, oMd := oMd, kMd := k_law_made, bMd := b_law_made, gMd := g_law_made, oRf := oRf, kRf := k_law_refused_at, bRf := b_law_refused_at, gRf := g_law_refused_at, oIs := oIs, kIs := k_law_is_machine, bIs := b_law_is_machine, gIs := g_law_is_machine, oAl := oAl, kAl := k_law_alike, bAl := b_law_alike, gAl := g_law_alike, oLe := oLe, kLe := k_law_least, bLe := b_law_least, gLe := g_law_least, oTx := oTx, kTx := k_law_text, bTx := b_law_text, gTx := g_law_text, oLs := oLs, kLs := k_law_lets, bLs := b_law_lets, gLs := g_law_lets, oTs := oTs, kTs := k_law_tells, bTs := b_law_tells, gTs := g_law_tells, oM := oMo, kM := k_machine_of, bM := b_ds, gM := g_machine_of, dM := v_ds } mrng menum mlen
end Cw
open PySem PySem.W PySem.Calls PyProof.Rows
theorem PySem.Challenge.cw_calmword_k23_whole_machines_tell_the_sam_holds : PySem.Challenge.rw_calmword_k23_whole_machines_tell_the_sam.Holds := by
  w_on; o_law
  refine HandSHeadRun.head_any (r := Cw.HR) (q := view Cw.HR.prog [44]) (H := Cw.zHook) (ob := Cw.zOb) (M := 2000) (loose := Cw.hloose) (d := HandSHeadRun.topDef Cw.HR.prog 44) (kwd := []) Cw.zOb_eq
    (by kernel_rfl) (fun s => by kernel_rfl) Cw.zRun (by kernel_rfl) (by kernel_rfl) (by kernel_rfl) (by rfl) (by first | assumption | decide +kernel) (by decide +kernel) ⟨rfl, rfl, rfl, rfl, rfl, by decide +kernel⟩ ?hw ?hc
  case hw => w_witness2
  case hc =>
    refine LamX.walk_ofTsE (l := PySem.Challenge.rw_calmword_k23_whole_machines_tell_the_sam) (n := 63) (k := 9) (x := "_law_script") (CX := fun _ => L2.CX0) rfl (by decide) (by kernel_rfl) ⟨rfl, by decide, by decide⟩ ?F (fun _ _ _ _ _ z => z)
    intro w mg fa h Y G hmg0
    obtain ⟨K, KX, c⟩ := Y
    have hmg : mg ("law" : PySem.Str) = some (.ref fa) := by
      have e : (HandSHeadRun.topDef Cw.HR.prog 44).name = ("law" : PySem.Str) := by kernel_rfl
      rw [← e]
      exact hmg0
    obtain ⟨fd, hb, hne, hF⟩ := Cw.facts (P := (PySem.Challenge.rw_calmword_k23_whole_machines_tell_the_sam).prog) (w := w) KX G hmg c
    have m1 : (("paired", none) : He.Defn) ∈ Cw.dtf := by simp [Cw.dtf]
    have m2 : (("behind_of", none) : He.Defn) ∈ Cw.dtf := by simp [Cw.dtf]
    refine ⟨K, KX, fd, [He.cT K ("paired", none), He.cT K ("behind_of", none)], Cw.spLaw K [((He.cT K ("paired", none)).2, Cw.nmP), ((He.cT K ("behind_of", none)).2, Cw.nmB)], ?_, ?_, ?_, hb, ?_, ?_⟩
    · intro p hp
      simp only [List.mem_cons, List.not_mem_nil, or_false] at hp
      rcases hp with rfl | rfl
      · exact c.empty _ m1
      · exact c.empty _ m2
    · intro p hp
      simp only [List.mem_cons, List.not_mem_nil, or_false] at hp
      rcases hp with rfl | rfl
      · exact c.out _ m1
      · exact c.out _ m2
    · intro p hp
      simp only [List.mem_cons, List.not_mem_nil, or_false] at hp
      rcases hp with rfl | rfl
      · exact PySem.W.codeHd_of_K KX (c.hd _ m1)
      · exact PySem.W.codeHd_of_K KX (c.hd _ m2)
    · intro H a ns hl _ ht hS
      refine ⟨a, ns, rfl, hS, Nat.le_trans hl (by decide), fun p hp => ?_, fun _ => rfl⟩
      simp only [List.mem_cons, List.not_mem_nil, or_false] at hp
      rcases hp with rfl | rfl
      · exact NdefX.TabN.nil (ht _ (by simp))
      · exact NdefX.TabN.nil (ht _ (by simp))
    · intro base XB GB TB
      exact hF base XB GB (TB _ (by simp)) (TB _ (by simp))
