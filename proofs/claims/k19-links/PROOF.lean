import PyProof.Rows.All
import Wide.All
import OpenK.AllK
import Wide.FinOn
import HandS.ForMost
import HandS.Walk
import HandS.DictComp
import HandS.IsInst
import HandS.Style
import HandS.TupAny
import HandS.Finally
import HandS.Deep
import KE.KIndexOf
import KE.GoesEnum
import PySem.Challenge.RW_plansamid_k19_whole_links_of_every_plan
set_option Elab.async false
set_option linter.all false
set_option maxRecDepth 100000
set_option maxHeartbeats 4000000
/-! K19: the mirror of the program and of the law, and what they have to do with one another; plain Lean. -/
namespace K19

/-- a pair of a source: its own column, an alias, that one's column -/
structure Pr (α : Type) where
  own : α
  als : α
  col : α
  deriving DecidableEq

/-- a source of an ask -/
structure Src (α : Type) where
  way : α
  name : α
  table : α
  pairs : List (Pr α)

section
variable {α : Type} [DecidableEq α]

abbrev aliases (S : List (Src α)) : List α := S.map Src.name

/-- what the program's inner turn tells of a pair -/
def hit (num : Nat) (me : α) (ahead : List Nat) (names : List α) (o : Nat) (s : Src α) (p : Pr α) : Option (Pr α) :=
  if o = num ∧ p.als ∈ names then some p
  else if o ∈ ahead ∧ p.als = me then some ⟨p.col, s.name, p.own⟩
  else none

/-- the same by the law's own reckoning -/
def lawHit (num : Nat) (ahead : List Nat) (all : List α) (o : Nat) (s : Src α) (p : Pr α) : Option (Pr α) :=
  if o = num ∧ all.idxOf p.als ∈ ahead then some p
  else if all.idxOf p.als = num ∧ o ∈ ahead then some ⟨p.col, s.name, p.own⟩
  else none

/-- the first that is told by some f over owners and their pairs, from the o-th on -/
def firstHit (f : Nat → Src α → Pr α → Option (Pr α)) : Nat → List (Src α) → Option (Pr α)
  | _, [] => none
  | o, s :: r => match s.pairs.findSome? (f o s) with
    | some p => some p
    | none => firstHit f (o + 1) r

def nameAt (S : List (Src α)) (n : Nat) (h : n < S.length) : α := (S[n]).name
/-- the names of some numbers -/
def namesOf (S : List (Src α)) (ns : List Nat) : List α := ns.filterMap fun n => S[n]?.map Src.name

/-- the program's link_to -/
def linkTo (S : List (Src α)) (num : Nat) (ahead : List Nat) : Option (Pr α) :=
  match S[num]? with
  | none => none
  | some s => firstHit (hit num s.name ahead (namesOf S ahead)) 0 S
/-- the law's _law_link -/
def lawLink (S : List (Src α)) (num : Nat) (ahead : List Nat) : Option (Pr α) :=
  firstHit (lawHit num ahead (aliases S)) 0 S

/-- what the asks of the law are like: no alias twice, each pair's alias is one of them -/
structure Wf (S : List (Src α)) : Prop where
  nd : (aliases S).Nodup
  al : ∀ s ∈ S, ∀ p ∈ s.pairs, p.als ∈ aliases S

theorem findSome_congr {β γ : Type} {f g : β → Option γ} : ∀ {l : List β}, (∀ x ∈ l, f x = g x) → l.findSome? f = l.findSome? g
  | [], _ => rfl
  | x :: r, h => by
    rw [List.findSome?_cons, List.findSome?_cons, h x List.mem_cons_self, findSome_congr fun y hy => h y (List.mem_cons_of_mem _ hy)]

theorem firstHit_congr {f g : Nat → Src α → Pr α → Option (Pr α)} : ∀ (l : List (Src α)) (o : Nat),
    (∀ (k : Nat) (s : Src α), l[k]? = some s → ∀ p ∈ s.pairs, f (o + k) s p = g (o + k) s p) → firstHit f o l = firstHit g o l
  | [], _, _ => rfl
  | s :: r, o, h => by
    have h0 : s.pairs.findSome? (f o s) = s.pairs.findSome? (g o s) := findSome_congr fun p hp => h 0 s rfl p hp
    have hr : firstHit f (o + 1) r = firstHit g (o + 1) r := firstHit_congr r (o + 1) fun k t hk p hp => by
      have := h (k + 1) t (by simpa using hk) p hp
      rw [show o + 1 + k = o + (k + 1) by omega]
      exact this
    unfold firstHit
    rw [h0, hr]

theorem idxOf_eq {l : List α} (nd : l.Nodup) {x : α} {n : Nat} (hn : n < l.length) (hx : x ∈ l) : l.idxOf x = n ↔ x = l[n] := by
  have hlt : l.idxOf x < l.length := List.idxOf_lt_length_iff.mpr hx
  constructor
  · intro e
    subst e
    exact (List.getElem_idxOf hlt).symm
  · intro e
    have e1 : l[l.idxOf x] = l[n] := (List.getElem_idxOf hlt).trans e
    exact (List.getElem_inj nd).mp e1

theorem mem_namesOf {S : List (Src α)} {ns : List Nat} {x : α} : x ∈ namesOf S ns ↔ ∃ n ∈ ns, ∃ h : n < S.length, (S[n]).name = x := by
  unfold namesOf
  rw [List.mem_filterMap]
  constructor
  · rintro ⟨n, hn, e⟩
    cases q : S[n]? with
    | none => rw [q] at e; cases e
    | some s =>
      rw [q] at e
      obtain ⟨hl, es⟩ := List.getElem?_eq_some_iff.mp q
      exact ⟨n, hn, hl, by rw [es]; exact Option.some.inj e⟩
  · rintro ⟨n, hn, hl, e⟩
    exact ⟨n, hn, by rw [List.getElem?_eq_getElem hl]; exact congrArg some e⟩

theorem hit_eq {S : List (Src α)} (w : Wf S) {num : Nat} (hn : num < S.length) {ahead : List Nat} (ha : ∀ m ∈ ahead, m < S.length) {o : Nat} {s : Src α} (hs : s ∈ S) {p : Pr α} (hp : p ∈ s.pairs) :
    hit num (S[num]).name ahead (namesOf S ahead) o s p = lawHit num ahead (aliases S) o s p := by
  have hm : p.als ∈ aliases S := w.al s hs p hp
  have hl : (aliases S).length = S.length := List.length_map ..
  have hlt : (aliases S).idxOf p.als < (aliases S).length := List.idxOf_lt_length_iff.mpr hm
  have c1 : p.als ∈ namesOf S ahead ↔ (aliases S).idxOf p.als ∈ ahead := by
    rw [mem_namesOf]
    constructor
    · rintro ⟨n, hn1, hl1, e⟩
      have e1 : (aliases S).idxOf p.als = n := (idxOf_eq w.nd (by omega) hm).mpr (by rw [List.getElem_map]; exact e.symm)
      rw [e1]
      exact hn1
    · intro h
      have h1 := ha _ h
      refine ⟨_, h, h1, ?_⟩
      have e1 := List.getElem_idxOf hlt
      rw [List.getElem_map] at e1
      exact e1
  have c2 : p.als = (S[num]).name ↔ (aliases S).idxOf p.als = num := by
    rw [idxOf_eq w.nd (by omega) hm, List.getElem_map]
  unfold hit lawHit
  exact ite_congr (propext (and_congr_right fun _ => c1)) (fun _ => rfl) fun _ => ite_congr (propext ⟨fun z => ⟨c2.mp z.2, z.1⟩, fun z => ⟨z.2, c2.mpr z.1⟩⟩) (fun _ => rfl) fun _ => rfl

/-- the program's link is the law's -/
theorem linkTo_law {S : List (Src α)} (w : Wf S) {num : Nat} (hn : num < S.length) {ahead : List Nat} (ha : ∀ m ∈ ahead, m < S.length) : linkTo S num ahead = lawLink S num ahead := by
  unfold linkTo lawLink
  rw [List.getElem?_eq_getElem hn]
  refine firstHit_congr S 0 fun k s hk p hp => ?_
  exact hit_eq w hn ha (List.mem_of_getElem? hk) hp

/-! ### what a found link is -/
theorem firstHit_some {f : Nat → Src α → Pr α → Option (Pr α)} {q : Pr α} : ∀ (l : List (Src α)) (o : Nat), firstHit f o l = some q → ∃ (k : Nat) (s : Src α) (p : Pr α), l[k]? = some s ∧ p ∈ s.pairs ∧ f (o + k) s p = some q
  | [], _, h => by cases h
  | s :: r, o, h => by
    unfold firstHit at h
    cases e : s.pairs.findSome? (f o s) with
    | some p =>
      rw [e] at h
      cases h
      obtain ⟨x, hx, hf⟩ := List.exists_of_findSome?_eq_some e
      exact ⟨0, s, x, rfl, hx, hf⟩
    | none =>
      rw [e] at h
      obtain ⟨k, t, p, hk, hp, hf⟩ := firstHit_some r (o + 1) h
      exact ⟨k + 1, t, p, by simpa using hk, hp, by rw [show o + (k + 1) = o + 1 + k by omega]; exact hf⟩

theorem findSome_at {β γ : Type} {g : β → Option γ} {q : γ} : ∀ {l : List β} {j : Nat} {p : β}, l[j]? = some p → g p = some q → (∀ (m : Nat) r, m < j → l[m]? = some r → g r = none) → l.findSome? g = some q
  | [], _, _, h, _, _ => by simp at h
  | x :: r, 0, p, h, hq, _ => by
    cases h
    rw [List.findSome?_cons, hq]
  | x :: r, j + 1, p, h, hq, hb => by
    rw [List.findSome?_cons, hb 0 x (Nat.succ_pos _) rfl]
    exact findSome_at (j := j) (by simpa using h) hq fun m s hm hs => hb (m + 1) s (by omega) (by simpa using hs)
theorem findSome_none {β γ : Type} {g : β → Option γ} : ∀ {l : List β}, (∀ r ∈ l, g r = none) → l.findSome? g = none
  | [], _ => rfl
  | x :: r, h => by rw [List.findSome?_cons, h x List.mem_cons_self, findSome_none fun y hy => h y (List.mem_cons_of_mem _ hy)]
theorem firstHit_none {f : Nat → Src α → Pr α → Option (Pr α)} : ∀ (l : List (Src α)) (o : Nat), (∀ (k : Nat) s, l[k]? = some s → ∀ p ∈ s.pairs, f (o + k) s p = none) → firstHit f o l = none
  | [], _, _ => rfl
  | s :: r, o, h => by
    unfold firstHit
    rw [findSome_none (g := f o s) fun p hp => h 0 s rfl p hp]
    exact firstHit_none r (o + 1) fun k t hk p hp => by
      rw [show o + 1 + k = o + (k + 1) by omega]
      exact h (k + 1) t (by simpa using hk) p hp
theorem firstHit_at {f : Nat → Src α → Pr α → Option (Pr α)} {q : Pr α} {s : Src α} {j : Nat} {p : Pr α} : ∀ {l : List (Src α)} {i o : Nat}, l[i]? = some s → s.pairs[j]? = some p → f (o + i) s p = some q →
    (∀ (k : Nat) t, k < i → l[k]? = some t → ∀ r ∈ t.pairs, f (o + k) t r = none) → (∀ (m : Nat) r, m < j → s.pairs[m]? = some r → f (o + i) s r = none) → firstHit f o l = some q
  | [], _, _, h, _, _, _, _ => by simp at h
  | x :: r, 0, o, h, hp, hq, _, hb => by
    cases h
    unfold firstHit
    rw [findSome_at (g := f o s) hp hq hb]
  | x :: r, i + 1, o, h, hp, hq, he, hb => by
    unfold firstHit
    rw [findSome_none (g := f o x) fun p' hp' => he 0 x (Nat.succ_pos _) rfl p' hp']
    refine firstHit_at (l := r) (i := i) (o := o + 1) (by simpa using h) hp (by rw [show o + 1 + i = o + (i + 1) by omega]; exact hq) (fun k t hk ht z hz => ?_) fun m z hm hz => ?_
    · rw [show o + 1 + k = o + (k + 1) by omega]
      exact he (k + 1) t (by omega) (by simpa using ht) z hz
    · rw [show o + 1 + i = o + (i + 1) by omega]
      exact hb m z hm hz
theorem namesOf_snoc {S : List (Src α)} {ns : List Nat} {n : Nat} {s : Src α} (h : S[n]? = some s) : namesOf S (ns ++ [n]) = namesOf S ns ++ [s.name] := by
  unfold namesOf
  rw [List.filterMap_append, List.filterMap_cons, h]
  rfl
theorem linkTo_eq {S : List (Src α)} {num : Nat} {ahead : List Nat} {s : Src α} (h : S[num]? = some s) : linkTo S num ahead = firstHit (hit num s.name ahead (namesOf S ahead)) 0 S := by
  unfold linkTo
  rw [h]

/-- a link ties its source to one ahead: either it is a pair of its source and names one ahead, or it is, turned about, a pair of one ahead that names its source -/
theorem lawLink_some {S : List (Src α)} {num : Nat} {ahead : List Nat} {q : Pr α} (h : lawLink S num ahead = some q) :
    (∃ s, S[num]? = some s ∧ q ∈ s.pairs ∧ (aliases S).idxOf q.als ∈ ahead) ∨
    (∃ o s p, S[o]? = some s ∧ p ∈ s.pairs ∧ o ∈ ahead ∧ (aliases S).idxOf p.als = num ∧ q = ⟨p.col, s.name, p.own⟩) := by
  obtain ⟨k, s, p, hk, hp, hf⟩ := firstHit_some S 0 h
  rw [Nat.zero_add] at hf
  unfold lawHit at hf
  by_cases h1 : k = num ∧ (aliases S).idxOf p.als ∈ ahead
  · rw [if_pos h1] at hf
    cases hf
    exact .inl ⟨s, by rw [← h1.1]; exact hk, hp, h1.2⟩
  · rw [if_neg h1] at hf
    by_cases h2 : (aliases S).idxOf p.als = num ∧ k ∈ ahead
    · rw [if_pos h2] at hf
      cases hf
      exact .inr ⟨k, s, p, hk, hp, h2.2, h2.1, rfl⟩
    · rw [if_neg h2] at hf
      cases hf

theorem lawLink_nil {S : List (Src α)} {num : Nat} : lawLink S num [] = none := by
  cases h : lawLink S num [] with
  | none => rfl
  | some q =>
    rcases lawLink_some h with ⟨_, _, _, e⟩ | ⟨_, _, _, _, _, e, _⟩
    · cases e
    · cases e

/-! ### the links of a plan -/
/-- which are ahead of a number by an order -/
def aheadOf (order : List Nat) (n : Nat) : List Nat := if n ∈ order then order.take (order.idxOf n) else order
def linkF (S : List (Src α)) (order : List Nat) (n : Nat) : Option (Pr α) := lawLink S n (aheadOf order n)
/-- those of some numbers that have one, with it -/
def both {β : Type} (f : Nat → Option β) (ns : List Nat) : List (Nat × β) := ns.filterMap fun n => (f n).map fun p => (n, p)

theorem both_mem {β : Type} {f : Nat → Option β} {ns : List Nat} {n : Nat} {p : β} : (n, p) ∈ both f ns ↔ n ∈ ns ∧ f n = some p := by
  unfold both
  rw [List.mem_filterMap]
  constructor
  · rintro ⟨m, hm, e⟩
    cases q : f m with
    | none => rw [q] at e; cases e
    | some r =>
      rw [q] at e
      cases e
      exact ⟨hm, q⟩
  · rintro ⟨h1, h2⟩
    exact ⟨n, h1, by rw [h2]; rfl⟩
theorem both_nil {β : Type} (f : Nat → Option β) : both f [] = [] := rfl
theorem both_snoc {β : Type} (f : Nat → Option β) (ns : List Nat) (n : Nat) : both f (ns ++ [n]) = both f ns ++ ((f n).map fun p => (n, p)).toList := by
  unfold both
  rw [List.filterMap_append]
  congr 1
theorem both_keys {β : Type} {f : Nat → Option β} : ∀ {ns : List Nat} {n : Nat}, n ∉ ns → n ∉ (both f ns).map (·.1) := fun {ns n} h hm => by
  obtain ⟨⟨m, p⟩, h1, h2⟩ := List.mem_map.mp hm
  have e : m = n := h2
  subst e
  exact h (both_mem.mp h1).1
theorem both_nodup {β : Type} {f : Nat → Option β} : ∀ {ns : List Nat}, ns.Nodup → ((both f ns).map (·.1)).Nodup
  | [], _ => List.nodup_nil
  | n :: r, h => by
    obtain ⟨h1, h2⟩ := List.nodup_cons.mp h
    have ih := both_nodup (f := f) h2
    unfold both
    rw [List.filterMap_cons]
    cases e : f n with
    | none => exact ih
    | some p =>
      show (n :: (both f r).map (·.1)).Nodup
      exact List.nodup_cons.mpr ⟨both_keys h1, ih⟩
theorem both_perm {β : Type} {f : Nat → Option β} {a b : List Nat} (h : a.Perm b) : (both f a).Perm (both f b) := h.filterMap _

/-! ### the numbers of the sources -/
def withs (w : α) (S : List (Src α)) : List Nat := (List.range S.length).filter fun n => decide ((S[n]?.map Src.way) = some w)
def others (w : α) (S : List (Src α)) : List Nat := (List.range S.length).filter fun n => !decide ((S[n]?.map Src.way) = some w)

theorem withs_nodup (w : α) (S : List (Src α)) : (withs w S).Nodup := List.nodup_range.filter _
theorem withs_lt {w : α} {S : List (Src α)} {n : Nat} (h : n ∈ withs w S) : n < S.length := List.mem_range.mp (List.mem_filter.mp h).1
theorem others_lt {w : α} {S : List (Src α)} {n : Nat} (h : n ∈ others w S) : n < S.length := List.mem_range.mp (List.mem_filter.mp h).1
theorem apart {w : α} {S : List (Src α)} {n : Nat} (h : n ∈ withs w S) : n ∉ others w S := fun h2 => by
  have a := (List.mem_filter.mp h).2
  have b := (List.mem_filter.mp h2).2
  rw [a] at b
  cases b
theorem all_perm (w : α) (S : List (Src α)) {order : List Nat} (h : order.Perm (withs w S)) : (order ++ others w S).Perm (List.range S.length) :=
  (h.append_right _).trans (List.filter_append_perm _ _)

/-! ### the orders -/
def orders : Nat → List Nat → List (List Nat)
  | 0, _ => [[]]
  | _ + 1, [] => [[]]
  | k + 1, x :: r => (x :: r).flatMap fun n => (orders k ((x :: r).filter fun m => !decide (m = n))).map fun o => n :: o

theorem filter_len {l : List Nat} (nd : l.Nodup) {n : Nat} (h : n ∈ l) : (l.filter fun m => !decide (m = n)).length + 1 = l.length ∧ (n :: l.filter fun m => !decide (m = n)).Perm l := by
  have e : (l.filter fun m => !decide (m = n)) = l.erase n := by
    rw [nd.erase_eq_filter]
    congr 1
  have p : (n :: l.erase n).Perm l := (List.perm_cons_erase h).symm
  rw [e]
  exact ⟨by have := p.length_eq; simpa using this, p⟩

theorem orders_perm : ∀ (k : Nat) (l : List Nat), l.Nodup → l.length ≤ k → ∀ o ∈ orders k l, o.Perm l
  | 0, l, _, hl, o, ho => by
    have e : l = [] := List.length_eq_zero_iff.mp (Nat.le_zero.mp hl)
    subst e
    have : o = [] := by simpa [orders] using ho
    subst this
    exact List.Perm.refl _
  | k + 1, [], _, _, o, ho => by
    have : o = [] := by simpa [orders] using ho
    subst this
    exact List.Perm.refl _
  | k + 1, x :: r, nd, hl, o, ho => by
    unfold orders at ho
    obtain ⟨n, hn, ho⟩ := List.mem_flatMap.mp ho
    obtain ⟨o', ho', rfl⟩ := List.mem_map.mp ho
    obtain ⟨h1, h2⟩ := filter_len nd hn
    have ih := orders_perm k _ (nd.filter _) (by omega) o' ho'
    exact (ih.cons n).trans h2

/-! ### the plans -/
/-- the plans of an order: a kept one where there is a link, a walked one -/
def planOf (w : α) (S : List (Src α)) (o : List Nat) : List (List Nat × Bool) := (if both (linkF S o) (o ++ others w S) = [] then [] else [(o, true)]) ++ [(o, false)]
def plans (k : Nat) (w : α) (S : List (Src α)) : List (List Nat × Bool) := (orders k (withs w S)).flatMap (planOf w S)
theorem planOf_len (w : α) (S : List (Src α)) (o : List Nat) : (planOf w S o).length ≤ 2 := by
  unfold planOf
  split <;> simp
theorem plans_perm {k : Nat} {w : α} {S : List (Src α)} (hk : (withs w S).length ≤ k) {o : List Nat} {b : Bool} (h : (o, b) ∈ plans k w S) : o.Perm (withs w S) := by
  obtain ⟨o', ho, h⟩ := List.mem_flatMap.mp h
  have p := orders_perm _ _ (withs_nodup w S) hk o' ho
  have e : o = o' := by
    rcases List.mem_append.mp h with h | h
    · split at h
      · cases h
      · cases List.mem_singleton.mp h; rfl
    · cases List.mem_singleton.mp h; rfl
  rw [e]
  exact p
theorem withs_le (w : α) (S : List (Src α)) : (withs w S).length ≤ S.length := by
  have := List.length_filter_le (fun n => decide ((S[n]?.map Src.way) = some w)) (List.range S.length)
  rw [List.length_range] at this
  exact this

/-! ### what the law looks at -/
theorem take_idx {order : List Nat} (nd : order.Nodup) {i : Nat} (h : i < order.length) : aheadOf order order[i] = order.take i := by
  unfold aheadOf
  rw [if_pos (List.getElem_mem h)]
  congr 1
  exact (List.getElem_inj nd).mp (List.getElem_idxOf (List.idxOf_lt_length_iff.mpr (List.getElem_mem h)))
theorem ahead_other {order : List Nat} {n : Nat} (h : n ∉ order) : aheadOf order n = order := if_neg h
theorem ahead_mem {order : List Nat} {n m : Nat} (h : m ∈ aheadOf order n) : m ∈ order := by
  unfold aheadOf at h
  split at h
  · exact List.mem_of_mem_take h
  · exact h
theorem ahead_before {order : List Nat} (nd : order.Nodup) {n m : Nat} (hn : n ∈ order) (h : m ∈ aheadOf order n) : order.idxOf m < order.idxOf n := by
  unfold aheadOf at h
  rw [if_pos hn] at h
  obtain ⟨i, hi, e⟩ := List.getElem_of_mem h
  rw [List.getElem_take] at e
  rw [List.length_take] at hi
  have hl : i < order.length := by omega
  have e2 : order.idxOf m = i := by
    refine (List.getElem_inj nd).mp ((List.getElem_idxOf (List.idxOf_lt_length_iff.mpr ?_)).trans e.symm)
    exact List.mem_of_mem_take h
  omega
/-- the lead has none -/
theorem lead_none {S : List (Src α)} {x : Nat} {r : List Nat} : linkF S (x :: r) x = none := by
  unfold linkF aheadOf
  rw [if_pos List.mem_cons_self, List.idxOf_cons_self, List.take_zero]
  exact lawLink_nil
end
end K19

/-! K19: rules of our own over the layer -/
namespace K19
open PySem PySem.Spec PyProof.Rows L2

/-! ### what stays -/
section
variable {K : PySem.W.Frag} {H H' : Hp}
theorem same_tup {a : Addr} {xs : List V} (e : Same H H') (h : SqT K H a xs) : SqT K H' a xs := by
  rcases h with (h | ⟨o, h⟩) | h
  · exact Or.inl (Or.inl (e _ _ h))
  · exact Or.inl (Or.inr ⟨o, e _ _ h⟩)
  · exact Or.inr h
mutual
theorem same_dp (e : Same H H') : ∀ (d : PyData) (v : V), Dp K H v d → Dp K H' v d
  | .none, _, h => by cases h; exact .non
  | .bool b, _, h => by cases h; exact .bl b
  | .int i, _, h => by cases h; exact .int i
  | .str x, _, h => by cases h; exact .str x
  | .list ds, _, h => by
    cases h with
    | lst hs ha => exact .lst (e.seq hs) (same_dpAll e ds _ ha)
  | .tuple ds, _, h => by
    cases h with
    | tup hs ha => exact .tup (same_tup e hs) (same_dpAll e ds _ ha)
  | .dict _, _, h => by cases h
theorem same_dpAll (e : Same H H') : ∀ (ds : List PyData) (vs : List V), DpAll K H vs ds → DpAll K H' vs ds
  | [], _, h => by cases h; exact .nil
  | d :: ds, _, h => by
    cases h with
    | cons h1 h2 => exact .cons (same_dp e d _ h1) (same_dpAll e ds _ h2)
end
theorem same_new {p : Addr} {o : HO} (h : H p = none) : Same H (upd H p o) := fun b x e => by
  rw [upd_ne (ne_of_none e h)]
  exact e

/-! ### data in the heap -/
theorem dp_tup {v : V} {ds : List PyData} (h : Dp K H v (.tuple ds)) : ∃ a xs, v = .ref a ∧ SqT K H a xs ∧ DpAll K H xs ds := by
  cases h with
  | tup hs ha => exact ⟨_, _, rfl, hs, ha⟩
theorem dp_lst {v : V} {ds : List PyData} (h : Dp K H v (.list ds)) : ∃ a xs, v = .ref a ∧ SqL K H a xs ∧ DpAll K H xs ds := by
  cases h with
  | lst hs ha => exact ⟨_, _, rfl, hs, ha⟩
theorem dp_str {v : V} {x : Str} (h : Dp K H v (.str x)) : v = .str x := by cases h; rfl
theorem dp_int {v : V} {i : Int} (h : Dp K H v (.int i)) : v = .int i := by cases h; rfl
theorem dpAll_len : ∀ {ds : List PyData} {vs : List V}, DpAll K H vs ds → vs.length = ds.length
  | [], _, h => by cases h; rfl
  | d :: ds, _, h => by
    cases h with
    | cons _ h2 => exact congrArg (· + 1) (dpAll_len h2)
theorem dpAll_get : ∀ {ds : List PyData} {vs : List V} {i : Nat} {d : PyData}, DpAll K H vs ds → ds[i]? = some d → ∃ v, vs[i]? = some v ∧ Dp K H v d
  | [], _, _, _, _, e => by simp at e
  | d :: ds, _, 0, d', h, e => by
    cases h with
    | cons h1 _ => exact ⟨_, rfl, by cases e; exact h1⟩
  | d :: ds, _, i + 1, d', h, e => by
    cases h with
    | cons _ h2 =>
      obtain ⟨v, h3, h4⟩ := dpAll_get (i := i) h2 (by simpa using e)
      exact ⟨v, by simpa using h3, h4⟩
theorem dpAll_of : ∀ {ds : List PyData} {vs : List V}, vs.length = ds.length → (∀ (i : Nat) v d, vs[i]? = some v → ds[i]? = some d → Dp K H v d) → DpAll K H vs ds
  | [], [], _, _ => .nil
  | [], _ :: _, h, _ => by simp at h
  | _ :: _, [], h, _ => by simp at h
  | d :: ds, v :: vs, h, f => .cons (f 0 v d rfl rfl) (dpAll_of (by simpa using h) fun i v' d' h1 h2 => f (i + 1) v' d' (by simpa using h1) (by simpa using h2))
theorem dpAll_append : ∀ {ds : List PyData} {vs : List V} {es : List PyData} {us : List V}, DpAll K H vs ds → DpAll K H us es → DpAll K H (vs ++ us) (ds ++ es)
  | [], _, _, _, h, g => by cases h; exact g
  | d :: ds, _, _, _, h, g => by
    cases h with
    | cons h1 h2 => exact .cons h1 (dpAll_append h2 g)
theorem dp_new {p : Addr} {vs : List V} {ds : List PyData} (h : H p = some (.tup vs)) (g : DpAll K H vs ds) : Dp K H (.ref p) (.tuple ds) := .tup (SqT.of h) g
end

/-! ### enumerate of a tuple -/
theorem meets_enum1 {v : Value} {o : Obj} {Hs : Heap → Prop} (B : Begins v o Hs) :
    Meets (Builtin.«enumerate.__new__» ⟨[.type "enumerate", v], []⟩) (fun _ R s => Hs s.heap ∧
      R (.ok (.ret (.ref (s.heap.push o).objs.size))) { s with heap := (s.heap.push o).push { cls := .type "enumerate", data := .fields #[.none, .bool false, .ref s.heap.objs.size, rawInt 0, .none, .none] } }) :=
  .of_wp fun prog w A R s h => by
    obtain ⟨hp, g, d, tk, os⟩ := s
    obtain ⟨h1, h⟩ := h
    have sub_e := sub_enumerate
    have it1 : ∀ {A' : Around} {E : Value → Shared → Prop} {Q : Value → Shared → Prop}, Q (.ref hp.objs.size) ⟨hp.push o, g, d, tk, os⟩ → wpAny (model prog w) A' (pyIter v) Q E ⟨hp, g, d, tk, os⟩ :=
      fun q => B.iter prog w _ _ ⟨hp, g, d, tk, os⟩ _ h1 q
    wp_walk using it1
    refine wpAny_stack_any fun st => wpAny_pure ?_
    split
    · rename_i c _ _ _ _ _
      cases (c == Value.type "enumerate")
      · wp_walk using it1
        exact ⟨_, rfl, h⟩
      · wp_walk using it1
        exact ⟨_, rfl, h⟩
    · wp_walk using it1
      exact ⟨_, rfl, h⟩

section
variable {prog : Program} {w : World} {A : Around} {E : Value → Shared → Prop} {s : Shared}
theorem enum1_begins {v : Value} {o : Obj} {Hs : Heap → Prop} {Q : Value → Shared → Prop} (B : Begins v o Hs) (h1 : Hs s.heap)
    (h : ∀ h', IsEnum h' (s.heap.objs.size + 1) s.heap.objs.size 0 .none → h'.get? s.heap.objs.size = some o →
      (∀ b o, s.heap.get? b = some o → h'.get? b = some o) → Q (.ref (s.heap.objs.size + 1)) { s with heap := h' }) :
    wpAny (model prog w) A (call (.type "enumerate") [v]) Q E s := by
  have hz : (s.heap.push o).objs.size = s.heap.objs.size + 1 := Heap.size_push ..
  have he : IsEnum ((s.heap.push o).push { cls := .type "enumerate", data := .fields #[.none, .bool false, .ref s.heap.objs.size, rawInt 0, .none, .none] }) (s.heap.objs.size + 1) s.heap.objs.size 0 .none := by
    have q := Heap.get?_push_size (s.heap.push o) (o := { cls := .type "enumerate", data := .fields #[.none, .bool false, .ref s.heap.objs.size, rawInt 0, .none, .none] }) rfl
    rw [hz] at q
    exact q
  refine callType_new F.called_enumerate (by decide) (F.typeCall_enumerate_1 _) (F.newCall_enumerate_1 _) (fun obj => F.args_object_init_2 obj _) F.entry_enumerate_new (meets_enum1 B) ⟨h1, ?_⟩
  show _ ∧ _
  rw [hz]
  exact ⟨⟨_, he, rfl⟩, h _ he (Heap.get?_push_of_some _ (Heap.get?_push_size _ B.free)) fun b o x => Heap.get?_push_of_some _ (Heap.get?_push_of_some _ x)⟩
end

/-- the tuple at a, each item in a new pair behind its place -/
def IteT (K : PySem.W.Frag) (a : Addr) : It where
  go := fun i H => ∃ (xs : List V) (x : V), SqT K H a xs ∧ xs[i]? = some x
  yld := fun i H v H' => ∃ T x, v = .ref T ∧ H T = none ∧ H' = upd H T (.tup [.int (i : Nat), x]) ∧ ∀ xs, SqT K H a xs → xs[i]? = some x
  stop := fun i H => ∃ xs : List V, SqT K H a xs ∧ xs.length ≤ i

theorem turn_enumT {P : Program} {w : World} {K : PySem.W.Frag} {elts : List Expr} {kk : Nat} {tpos : Pos} (a e it : Addr) (hae : a ≠ it) :
    Turn P w K (.Tuple elts kk tpos) (IteT K a) [e, it] e (fun i h => (∃ old, IsEnum h e it ((i : Nat) : Int) old) ∧ h.IsTupleIter it a i ∧ e ≠ it ∧ e ≠ a) where
  mem := List.mem_cons_self
  obj := fun i h st b hb => by
    obtain ⟨⟨old, he⟩, ⟨o, ho, hc, hd⟩, _⟩ := st
    have which : b = e ∨ b = it := by simpa using hb
    rcases which with z | z
    · subst z
      exact ⟨_, he, fun v q => nomatch q⟩
    · subst z
      exact ⟨o, ho, fun v q => by rw [hd] at q; cases q⟩
  keep := fun i h h' st k => by
    obtain ⟨⟨old, he⟩, hi, hne, hna⟩ := st
    exact ⟨⟨old, k e (by simp) _ he⟩, hi.at fun o q => k it (by simp) o q, hne, hna⟩
  item := by
    intro X hP hw hK hc i pins s σ H E I hf st hg
    subst hP hw hK
    obtain ⟨⟨old, he⟩, hit, hne, hna⟩ := st
    obtain ⟨xs, x, hq, hx⟩ := hg
    obtain ⟨its, rv, p, hz⟩ := I.tuple hq
    have pT : s.heap.IsTuple a its.toArray := p
    obtain ⟨u, hu, ru⟩ := rv.get hx
    have el : e < s.heap.objs.size := Heap.lt_size he
    have il : it < s.heap.objs.size := by
      obtain ⟨_, q, _⟩ := hit
      exact Heap.lt_size q
    have hil : i < its.toArray.size := by
      have := (List.getElem?_eq_some_iff.mp hu).1
      simpa using this
    have D := Draws.tuple (prog := X.prog) (w := X.w) (A := X.A.in1) (I.ok.hd hc) it a hae its.toArray
    refine wpAny_pyNext_enum_itemC (c := (i : Int)) D he ⟨hit, pT⟩ hil hne (by simp [hne, hna]) fun y h' tk hy ho hit' hT hsz hk => ?_
    have ey : y = u := by
      have e1 : its.toArray[i]? = some y := hy
      rw [List.getElem?_toArray, hu] at e1
      exact (Option.some.inj e1).symm
    subst ey
    refine ⟨_, rfl, wpAny_letOwnedTupleGo_enum (s := { s with heap := h', toks := tk + 1 }) ho fun h'' he' sb => ?_⟩
    have hT2 : h''.get? s.heap.objs.size = some { cls := .type "tuple", data := .seq #[.int i tk, y] } := (sb.2 _ (Nat.ne_of_gt el)).trans hT
    have fresh : ObjOk X.prog X.w (upd H s.heap.objs.size (.tup [.int (i : Nat), x])) h'' s.heap.objs.size (.tup [.int (i : Nat), x]) :=
      ⟨by show 2 ≤ sizeLine; decide, [.int i tk, y], .cons ⟨_, rfl⟩ (.cons ru .nil), ⟨_, hT2, rfl, _, rfl⟩⟩
    have I1 : Inv X pins σ (upd H s.heap.objs.size (.tup [.int (i : Nat), x])) { s with heap := h'', toks := tk + 1 } :=
      I.turnedNew (ch := [e, it]) (fun b ob hb q => by
        have n1 : b ≠ e := fun z => hb (by simp [z])
        have n2 : b ≠ it := fun z => hb (by simp [z])
        exact (sb.2 b n1).trans (hk b ob n1 n2 q)) hf (Nat.le_refl _) fresh
    refine ⟨.ref s.heap.objs.size, _, I1, rfl, ⟨_, x, rfl, I.hok.fresh (Nat.le_refl _), rfl, fun ys hy2 => ?_⟩, ⟨⟨y, ?_⟩, hit'.1.at fun o q => (sb.2 it (Ne.symm hne)).trans q, hne, hna⟩, fun b hb => ?_⟩
    · rw [I.tuple_inj hy2 hq]
      exact hx
    · have e1 : ((i + 1 : Nat) : Int) = (i : Int) + 1 := by omega
      rw [e1]
      exact he'
    · have lt : b < s.heap.objs.size := by
        have which : b = e ∨ b = it := by simpa using hb
        rcases which with z | z
        · rw [z]; exact el
        · rw [z]; exact il
      rw [upd_ne (Nat.ne_of_lt lt)]
      exact (hf b hb).1
  done := by
    intro X hP hw hK hc i pins s σ H E I hf st hg
    subst hP hw hK
    obtain ⟨⟨old, he⟩, hit, hne, hna⟩ := st
    obtain ⟨xs, hq, hx⟩ := hg
    obtain ⟨its, rv, p, hz⟩ := I.tuple hq
    have pT : s.heap.IsTuple a its.toArray := p
    obtain ⟨f0, f1, f2, f3, f4, f5⟩ := hf it (by simp)
    have hl : its.toArray.size ≤ i := by
      have := rv.length
      rw [List.size_toArray]
      omega
    unfold pyNext
    have hTy : s.TypeIs (.ref e) "enumerate" := ⟨_, he, rfl⟩
    refine wpAny_bind (wpAny_attempt (wpAny_callSpecial?_slot (name := Str.ofString "__next__") hTy F.slot_enumerate_next
      (wpAny_call_entry F.slot_enumerate_next hTy F.entry_enumerate_next ?_ (F.args_enumerate_next_1 _))))
    show wpAny _ _ (field (.ref e) 2 >>= _) _ _ _
    refine wpAny_bind (wpAny_field he rfl (x := .ref it) rfl ?_)
    refine wpAny_bind (wpAny_nextOf_tuple_end (I.ok.hd hc) hit pT (by simpa using hl) fun h' x he2 hx2 => ?_)
    obtain ⟨o, ho, hcl⟩ := hx2
    refine wpAny_bind (wpAny_isInstance (T := "StopIteration") (b := true) ⟨o, ho, hcl⟩ isSubtype_stop ?_)
    exact wpAny_pure ⟨rfl, I.turned (t' := s.toks) (fun b o hb q => he2 b o hb q) f0 f1 f3 f4 f5⟩
  self := fun A i s Q E st h => by
    obtain ⟨⟨_, he⟩, _⟩ := st
    exact wpAny_pyIter_enum he h

def iEnumT (K : PySem.W.Frag) (ta : TA) : TI := fun σ H R => ta σ H fun vs H1 => ∃ a xs, vs = [.ref a] ∧ SqT K H1 a xs ∧ R (IteT K a) H1
theorem pi_enumT {X : Cx} {e : Expr} {ta : TA} {p pos tpos : Pos} {elts : List Expr} {kk : Nat} (hg : Gl X "enumerate") (hm : X.mg "enumerate" = none) (ha : PA X [e] ta) (hs : starEach [e] X.env = [(false, eval e X.env)] := by rfl) :
    PI X (.Tuple elts kk tpos) (.Call (.Name "enumerate" p) [e] [] pos) (iEnumT X.K ta) := by
  refine ⟨fun pins s σ H R I h => ?_⟩
  refine Call_ (ld_blt I hg hm boot_enumerate (PyProof.Rows.callWith_type1 (thn (ha.run pos pins s σ H _ I h) fun us s1 ⟨vs, H1, I1, r1, q1⟩ => ?_) hs rfl))
  obtain ⟨a, xs, ex, hq, q⟩ := q1
  subst ex
  cases r1 with
  | cons r rr =>
    cases rr
    cases r
    obtain ⟨its, rv, p', hz⟩ := I1.tuple hq
    have pT : s1.heap.IsTuple a its.toArray := p'
    have la : a < s1.heap.objs.size := by
      obtain ⟨o, ho, _⟩ := p'
      exact Heap.lt_size ho
    refine enum1_begins (begins_tuple a its.toArray) pT fun h' he ho hk => wpAny_pyIter_enum he ?_
    have I2 : Inv X pins σ H1 { s1 with heap := h' } := I1.kept (t' := s1.toks) hk
    refine ⟨s1.heap.objs.size + 1, [s1.heap.objs.size + 1, s1.heap.objs.size], _, _, H1, rfl, I2, turn_enumT a (s1.heap.objs.size + 1) s1.heap.objs.size (Nat.ne_of_lt la), ⟨⟨.none, he⟩, ⟨_, ho, rfl, rfl⟩, Nat.succ_ne_self _, Nat.ne_of_gt (Nat.lt_succ_of_lt la)⟩, fun b hb => ?_, q⟩
    have le : s1.heap.objs.size ≤ b := by
      have which : b = s1.heap.objs.size + 1 ∨ b = s1.heap.objs.size := by simpa using hb
      rcases which with z | z
      · rw [z]; exact Nat.le_add_right _ _
      · rw [z]; exact Nat.le_refl _
    exact I1.fpOk le (I1.hok.fresh le)
theorem walk_enumT {K : PySem.W.Frag} {a : Addr} {xs : List V} : Walk (IteT K a) xs.length (fun H => SqT K H a xs) (YPair (fun i => some (.int (i : Nat))) (fun i => xs[i]?)) where
  goes := fun i _ hi q => ⟨xs, xs[i], q, by simp [hi]⟩
  stops := fun _ q => ⟨xs, q, Nat.le_refl _⟩
  yields := fun i H v H' _ q y => by
    obtain ⟨T, x, h1, h2, h3, h4⟩ := y
    exact ⟨T, .int (i : Nat), x, h1, h2, h3, rfl, h4 xs q⟩
end K19

namespace K19
open PySem PySem.Spec PyProof.Rows L2

/-! ### repr of data, where no other repr runs -/
def rRepr (K : PySem.W.Frag) : List V → Hp → VK → Prop := fun xs H Q => ∃ (a : Addr) (d : PyData), xs = [.ref a] ∧ Dp K H (.ref a) d ∧ (d.showable = true ∧ d.hasDict = false ∧ d.depth ≤ 60 ∧ d.shown.length ≤ sizeLine) ∧ Q (.str d.shown) H
theorem call_repr_data {X : Cx} (hg : X.A.guards = some []) (hu : X.A.units + 64 < cLine) : CallR X (.builtin "repr") (rRepr X.K) := by
  intro pins s σ H xs us Q I r h
  obtain ⟨a, d, rfl, hd, ⟨h1, h2, h3, h4⟩, q⟩ := h
  obtain ⟨u, rfl, e⟩ := vals1 r
  obtain rfl : u = Value.ref a := e
  obtain ⟨as, rd⟩ := Dp.reads I d (.ref a) (.ref a) hd rfl
  exact repr_of_reads' rd h1 (PyData.noDict_hsm h2) hg (by omega) (fun _ _ e => e) (fun h' u tk hk => ⟨.str d.shown, H, I.kept hk, ⟨u, rfl⟩, q⟩) h4

/-! ### a def's promise, where no repr runs around it -/
structure FnG (P : Program) (w : World) (K : PySem.W.Frag) (mg : Str → Option Value) (base : Heap) (k : Nat) (f : Addr) (fd : FuncData) (ps : List Str) (sp : Sp) : Prop where
  len : ∀ vs H Q E, sp vs H Q E → vs.length = ps.length
  run : ∀ (A : Around) (outer : List Env) (s : Shared) (H : Hp) (args : Args) (us : List Value) (vs : List V) (Q : VK) (E : XK), Room k A → A.guards = some [] → Env0 P w K mg base A outer s H →
    BindsTo s fd args (ps.zip us) → Vals vs us → sp vs H Q E → codeAny (model P w) A (.call (.ref f) args) (CR CX0 outer P w H s Q E) s

section
variable {P : Program} {w : World} {K : PySem.W.Frag} {mg : Str → Option Value} {base : Heap}
theorem okG {x qual : Str} {st : Stmt} {f : Addr} {fd : FuncData} {N ps : List Str} {k : Nat} {sp : Sp} (F : Fun K x qual st f fd) (S : FnScope N ps (defScope st)) (len : ∀ vs H Q E, sp vs H Q E → vs.length = ps.length)
    (hbody : ∀ (cdv : Value) (A : Around) (outer : List Env) (s : Shared) (H : Hp) (vs : List V) (Q : VK) (E : XK), Room k (A.deeper (envOfC qual (defScope st) s.heap.objs.size f cdv)) → A.guards = some [] → sp vs H Q E →
      ∃ t, PSs (cxOf CX0 P w K mg base N qual (defScope st) f cdv A outer s H E).nox (defBody st) t ∧ t { nx := fun _ H' => Q .non H', rt := Q } (start N vs) H) : FnG P w K mg base (k + 1) f fd ps sp := by
  obtain ⟨oc, od, kV, doc, pm, an, cdv, ct, osl, rfl, lk, hcd⟩ := F.ex
  refine ⟨len, fun A outer s H args us vs Q E room gd e0 bnd rel want => ?_⟩
  have hl := len _ _ _ _ want
  have KX : K.In s.heap := e0.mod.kin.keeps fun b o q => (e0.bs b o q).1
  have lim : s.heap.NoLimit := e0.mod.nolimit.keeps fun b o q => (e0.bs b o q).1
  have kinds : ∀ y ∈ ps.zip us, (defScope st).names.lookup y.1 = some .local ∨ ((defScope st).names.lookup y.1 = some .cell ∧ ((cellsFrom (s.heap.objs.size + 1) (defScope st).names []).lookup y.1).isSome = true) := fun ⟨n, v⟩ hy =>
    (S.par n (List.of_mem_zip hy).1).elim Or.inl fun q => Or.inr ⟨q, PySem.W.cellsFrom_some _ _ _ (.inl q)⟩
  refine codeAny_call_function room.depth (KX _ _ lk) rfl S.co S.gen rfl (PySem.W.codeRec_of KX hcd) (bnd _ _ _ _ ?_)
  refine wpAny_newFunctionEnv_cells S.kind kinds fun env he s1 x => ?_
  subst he
  refine ⟨lim.keeps x.toInCall.keep, codeAny_func ?_⟩
  obtain ⟨t, ht, hq⟩ := hbody cdv A outer s H vs Q E (room.deeper _) gd want
  have I : Inv (cxOf CX0 P w K mg base N qual (defScope st) f cdv A outer s H E) [] (start N vs) H s1 := inv_start S room.hd e0 hl rel x
  have out : ∀ {σ' : L2.St} {H' : Hp} {v : V} {u : Value} {s' : Shared}, Inv (cxOf CX0 P w K mg base N qual (defScope st) f cdv A outer s H E) [] σ' H' s' → RelV v u → Q v H' → CE outer P w H s Q u s' :=
    fun {σ' H' v u s'} J rv q => ⟨v, H', J.os, J.bare, J.base, J.hok, rv, q⟩
  refine wpAny_mono (ht.nox.run [] s1 (start N vs) H _ I hq) (fun fl s' hs => ?_) fun e s' hs => hs
  cases fl with
  | brk =>
    obtain ⟨_, _, _, q⟩ := hs
    exact q.elim
  | cont =>
    obtain ⟨_, _, _, q⟩ := hs
    exact q.elim
  | ret u =>
    obtain ⟨v, σ', H', J, rv, q⟩ := hs
    exact out J rv q
  | next =>
    obtain ⟨σ', H', J, q⟩ := hs
    exact out (v := V.non) (u := Value.none) J rfl q
end

/-- f(..) of such a def -/
theorem pe_callG {X : Cx} {k : Nat} {f : Addr} {fd : FuncData} {ps : List Str} {sp : Sp} {E : XK} {x : Str} {p pos : Pos} {e : Expr} {es : List Expr} {t : TA} (F : FnG X.prog X.w X.K X.mg X.base k f fd ps sp) (hr : Room k X.A) (gd : X.A.guards = some []) (hg : Gl X x) (hm : X.mg x = some (.ref f))
    (hk : PySem.W.keepIn X.K (.ref f) = true) (hb : Binds X.K fd ps []) (ha : PA X (e :: es) t) (hdb : (x == ("__debug__" : Str)) = false := by decide) (he : starEach (e :: es) X.env = (false, eval e X.env) :: starEach es X.env := by rfl)
    (hpl : (backTo pos (starEach es X.env)).any (·.1) = false := by rfl) : PE X (.Call (.Name x p) (e :: es) [] pos) (fun σ H Q => t σ H fun vs H1 => sp vs H1 Q E) := by
  refine ⟨fun pins s σ H Q I h => ?_⟩
  refine wpAny_Call_Name_kw (ld_glob I hg hm ?_ hdb)
  refine PySem.W.callWith_K (h₀ := X.base) I.ok.mod.kin hk (thn (ha.run pos pins s σ H _ I h) fun us s1 ⟨vs, H1, I1, r, q⟩ => ⟨I1.kIn, ?_⟩) he hpl
  have hl : us.length = ps.length := by
    rw [← r.length]
    exact F.len _ _ _ _ q
  have bd := hb s1 us I1.kIn (by rw [List.append_nil]; exact hl)
  rw [List.append_nil] at bd
  refine wpAny_call (codeAny_mono (F.run X.A X.stack s1 H1 ⟨us, []⟩ us vs Q E hr gd I1.env0 bd r q) fun r s' hq => ?_)
  cases r with
  | error e => exact hq.elim
  | ok fl =>
    cases fl with
    | ret u => exact I1.after hq
    | next => exact hq.elim
    | brk => exact hq.elim
    | cont => exact hq.elim

/-- f(k = v, ..), keywords alone -/
theorem pe_callK0 {X : Cx} {CX : CXT} {k : Nat} {f : Addr} {fd : FuncData} {ps ks : List Str} {sp : Sp} {E : XK} {x : Str} {p pos : Pos} {kws : List Keyword} {tk : TA} {g : List Value → List Value → List Value} {gV : List V → List V → List V} (F : FnOk X.prog X.w X.K X.mg X.base CX k f fd ps sp)
    (hr : Room k X.A) (hg : Gl X x) (hm : X.mg x = some (.ref f)) (hk : PySem.W.keepIn X.K (.ref f) = true) (hb : KBinds X.K fd ps ks g gV) (hx : Passes CX X E) (hkw : PK X kws tk)
    (hall : (backToKw pos (keywordEach kws X.env)).all (·.1.isSome) = true := by rfl) (hks : (backToKw pos (keywordEach kws X.env)).filterMap (·.1) = ks := by rfl) (hdb : (x == ("__debug__" : Str)) = false := by decide)
    (hpl : ((backTo pos (starEach [] X.env)).any (·.1) || (backToKw pos (keywordEach kws X.env)).any (·.1.isNone)) = false := by rfl) :
    PE X (.Call (.Name x p) [] kws pos) (fun σ H Q => tk σ H fun zs H2 => sp (gV [] zs) H2 Q E) := by
  refine ⟨fun pins s σ H Q I h => ?_⟩
  refine wpAny_Call_Name_kw (ld_glob I hg hm ?_ hdb)
  refine PySem.W.callWith_KW0 (h₀ := X.base) I.ok.mod.kin hk hall (thn (hkw.run pos pins s σ H _ I h) fun ws s2 ⟨zs, H2, I2, rz, q2⟩ => ⟨I2.kIn, ?_⟩) hpl
  rw [hks]
  exact run_fnk (us := []) (vs := []) F hr hb hx I2 .nil rz q2

/-! ### index -/
theorem ints_vals : ∀ {ns : List Int} {us : List Value}, Vals (ns.map V.int) us → IntsAre us ns
  | [], _, .nil => .nil
  | n :: ns, _, .cons ⟨k, e⟩ t => by
    subst e
    exact .cons n k (ints_vals t)
theorem strs_vals : ∀ {ns : List Str} {us : List Value}, Vals (ns.map V.str) us → StrsAre us ns
  | [], _, .nil => .nil
  | n :: ns, _, .cons ⟨k, e⟩ t => by
    subst e
    exact .cons n k (strs_vals t)
section
variable {X : Cx}
theorem mt_tindexI : MtR X "tuple.index" (fun x xs H Q => ∃ (p : Addr) (ns : List Int) (k : Int), x = .ref p ∧ xs = [.int k] ∧ SqT X.K H p (ns.map V.int) ∧ k ∈ ns ∧ Q (.int (ns.idxOf k : Nat)) H) := by
  intro pins s σ H x xs v us Q I rx rs h
  obtain ⟨p, ns, k, rfl, rfl, hq, hm, q⟩ := h
  obtain rfl : v = Value.ref p := rx
  obtain ⟨u, rfl, t, rfl⟩ := vals1 rs
  obtain ⟨its, r, pl, hz⟩ := I.tuple hq
  have pT : s.heap.IsTuple p its.toArray := pl
  exact SeqAt.tuple_index_ints pT (ints_vals r) hm ⟨.int (ns.idxOf k : Nat), H, I.tok _, ⟨_, rfl⟩, q⟩
theorem mt_lindexS : MtR X "list.index" (fun x xs H Q => ∃ (p : Addr) (ns : List Str) (k : Str), x = .ref p ∧ xs = [.str k] ∧ SqL X.K H p (ns.map V.str) ∧ k ∈ ns ∧ Q (.int (ns.idxOf k : Nat)) H) := by
  intro pins s σ H x xs v us Q I rx rs h
  obtain ⟨p, ns, k, rfl, rfl, hq, hm, q⟩ := h
  obtain rfl : v = Value.ref p := rx
  obtain ⟨u, rfl, t, rfl⟩ := vals1 rs
  obtain ⟨its, r, pl, hz⟩ := I.list hq
  exact SeqAt.list_index_strs pl.isList (strs_vals r) (by rw [List.length_map] at hz; exact hz) hm ⟨.int (ns.idxOf k : Nat), H, I.tok _, ⟨_, rfl⟩, q⟩

/-! ### x in a tuple of data -/
def rInT (K : PySem.W.Frag) : R2 := fun x y H Q => ∃ d ds, Dp K H x d ∧ Dp K H y (.tuple ds) ∧ SeqAt.shaped d = true ∧ SeqAt.shaped (.tuple ds) = true ∧ Q (.bl (ds.any fun z => PyData.eqv z d)) H
theorem op_inT (hu : X.A.units + 65 < cLine) : OpR X (compareOp .In) (rInT X.K) := by
  intro pins s σ H x y v u Q I rx ry h
  obtain ⟨d, ds, hd, he, sd, se, q⟩ := h
  obtain ⟨as, r1⟩ := Dp.reads I d x v hd rx
  obtain ⟨bs, r2⟩ := Dp.reads I (.tuple ds) y u he ry
  have hds : PyData.canLayAll0 ds = true := by
    have := SeqAt.canLay_of_shaped se
    simpa only [PyData.canLay0] using this
  exact SeqAt.in_tuple_reads r2 r1 hds (SeqAt.canLay_of_shaped sd) (room_in_shaped sd hu) ⟨.bl _, H, I, rfl, q⟩

/-! ### dicts of data compared -/
/-- a dict's entries hold these data -/
def DkD (K : PySem.W.Frag) (H : Hp) (kvs : List (Key × V)) (L : List (Key × PyData)) : Prop := Paired (fun (p : Key × V) (q : Key × PyData) => p.1 = q.1 ∧ Dp K H p.2 q.2) kvs L
theorem dkd_val {K : PySem.W.Frag} {H : Hp} : ∀ {kvs : List (Key × V)} {L : List (Key × PyData)} {k : Key} {d : PyData}, DkD K H kvs L → (L.map (·.1)).Nodup → (k, d) ∈ L → ∃ v, valV kvs k = some v ∧ Dp K H v d
  | [], _, _, _, h, _, hm => by
    cases h
    cases hm
  | p :: kvs, L, k, d, h, nd, hm => by
    cases h with
    | @cons _ q _ L' h1 h2 =>
      obtain ⟨e, hd⟩ := h1
      by_cases hk : p.1 = k
      · refine ⟨p.2, ?_, ?_⟩
        · unfold valV
          rw [List.find?_cons_of_pos (by simpa using hk)]
          rfl
        · have eq : q = (k, d) := by
            rcases List.mem_cons.mp hm with z | z
            · exact z.symm
            · exfalso
              have nd' : (q.1 :: L'.map (·.1)).Nodup := nd
              refine (List.nodup_cons.mp nd').1 ?_
              rw [← e, hk]
              exact List.mem_map.mpr ⟨(k, d), z, rfl⟩
          rw [eq] at hd
          exact hd
      · have nd' : (q.1 :: L'.map (·.1)).Nodup := nd
        have hm' : (k, d) ∈ L' := by
          rcases List.mem_cons.mp hm with z | z
          · exact absurd (by rw [e, ← z]) hk
          · exact z
        obtain ⟨v, hv, hd'⟩ := dkd_val h2 (List.nodup_cons.mp nd').2 hm'
        refine ⟨v, ?_, hd'⟩
        unfold valV at hv ⊢
        rw [List.find?_cons_of_neg (by simpa using hk)]
        exact hv
theorem hits_data {A : Around} {s : Shared} {pins : List (Addr × Obj)} {σ : L2.St} {H : Hp} (I : Inv X pins σ H s) (hu : A.in1.units + 64 < cLine) {ls : List (Key × V)} {vb : List (Key × Value)} (rb : KV ls vb) {M : List (Key × PyData)} (hM : DkD X.K H ls M) (nd : (M.map (·.1)).Nodup)
    (sh : ∀ p ∈ M, SeqAt.shaped p.2 = true) : ∀ {ks : List (Key × V)} {va : List (Key × Value)} {L : List (Key × PyData)}, KV ks va → DkD X.K H ks L → (∀ p ∈ L, p ∈ M) → PySem.W.KeqHits A.in1 s vb va true
  | [], _, _, ra, _, _ => by
    cases ra
    exact .nil
  | p :: ks, va, L, ra, hL, sub => by
    cases ra with
    | @cons _ q _ va' h1 h2 =>
      cases hL with
      | @cons _ r _ L' h3 h4 =>
        obtain ⟨e1, rv⟩ := h1
        obtain ⟨e3, hd⟩ := h3
        have hm : (r.1, r.2) ∈ M := sub r List.mem_cons_self
        obtain ⟨v, hv, hdv⟩ := dkd_val hM nd hm
        have ro : RelO (some v) (valueAt vb r.1) := by
          rw [← hv]
          exact rb.val r.1
        obtain ⟨y, hy, ry⟩ := ro.some_of
        obtain ⟨as, r1⟩ := Dp.reads I r.2 p.2 q.2 hd rv
        obtain ⟨bs, r2⟩ := Dp.reads I r.2 v y hdv ry
        have s1 := sh _ hm
        have ea := PySem.W.keq_at (A := A) r1 r2 s1 s1 hu
        have er : PyData.eqv r.2 r.2 = true := SeqAt.eqv_refl r.2 (SeqAt.canLay_of_shaped s1)
        rw [er] at ea
        have ek : q.1 = r.1 := e1.symm.trans e3
        obtain ⟨qk, qv⟩ := q
        have ek' : qk = r.1 := ek
        subst ek'
        show PySem.W.KeqHits A.in1 s vb ((r.1, qv) :: va') (true && true)
        exact .hit hy ea (hits_data I hu rb hM nd sh h2 h4 fun z hz => sub z (List.mem_cons_of_mem _ hz))
/-- two dicts of the same data, whatever the order -/
def rSameD (K : PySem.W.Frag) (b : Bool) : R2 := fun x y H Q => ∃ a c ks ls L M, x = .ref a ∧ y = .ref c ∧ H a = some (.dK ks) ∧ H c = some (.dK ls) ∧ DkD K H ks L ∧ DkD K H ls M ∧ (M.map (·.1)).Nodup ∧ (∀ p ∈ M, SeqAt.shaped p.2 = true) ∧ L.Perm M ∧ Q (.bl b) H
theorem dkd_len {K : PySem.W.Frag} {H : Hp} {kvs : List (Key × V)} {L : List (Key × PyData)} (h : DkD K H kvs L) : kvs.length = L.length := Paired.length h
theorem op_eqSame (hu : X.A.units + 66 < cLine) : OpR X (compareOp .Eq) (rSameD X.K true) := by
  intro pins s σ H x y v u Q I rx ry h
  obtain ⟨a, c, ks, ls, L, M, rfl, rfl, ea, ec, hL, hM, nd, sh, pm, q⟩ := h
  obtain rfl : v = Value.ref a := rx
  obtain rfl : u = Value.ref c := ry
  obtain ⟨_, ya, va, ra, da⟩ := (show ObjOk X.prog X.w H s.heap a (.dK ks) from I.hok a _ ea)
  obtain ⟨_, yc, vc, rc, dc⟩ := (show ObjOk X.prog X.w H s.heap c (.dK ls) from I.hok c _ ec)
  have hl : va.length = vc.length := by rw [← ra.length, ← rc.length, dkd_len hL, dkd_len hM, pm.length_eq]
  exact PySem.W.keq_eq (knd := mixKind X.prog X.w) (r := true) ya yc da dc (by omega) (fun _ => hits_data I (by show X.A.units + 1 + 64 < cLine; omega) rc hM nd sh ra hL fun p hp => pm.mem_iff.mp hp) (fin_bl I q (by simp [hl]))
theorem op_neSame (hu : X.A.units + 66 < cLine) : OpR X (compareOp .NotEq) (rSameD X.K false) := by
  intro pins s σ H x y v u Q I rx ry h
  obtain ⟨a, c, ks, ls, L, M, rfl, rfl, ea, ec, hL, hM, nd, sh, pm, q⟩ := h
  obtain rfl : v = Value.ref a := rx
  obtain rfl : u = Value.ref c := ry
  obtain ⟨_, ya, va, ra, da⟩ := (show ObjOk X.prog X.w H s.heap a (.dK ks) from I.hok a _ ea)
  obtain ⟨_, yc, vc, rc, dc⟩ := (show ObjOk X.prog X.w H s.heap c (.dK ls) from I.hok c _ ec)
  have hl : va.length = vc.length := by rw [← ra.length, ← rc.length, dkd_len hL, dkd_len hM, pm.length_eq]
  exact PySem.W.keq_ne (knd := mixKind X.prog X.w) (r := true) ya yc da dc (by omega) (fun _ => hits_data I (by show X.A.units + 1 + 64 < cLine; omega) rc hM nd sh ra hL fun p hp => pm.mem_iff.mp hp) (fin_bl I q (by simp [hl]))
/-- d != {} -/
def rNeNil : R2 := fun x y H Q => ∃ a c ks, x = .ref a ∧ y = .ref c ∧ H a = some (.dK ks) ∧ H c = some (.dK []) ∧ Q (.bl (!ks.isEmpty)) H
theorem op_neNil (hu : X.A.units < cLine) : OpR X (compareOp .NotEq) rNeNil := by
  intro pins s σ H x y v u Q I rx ry h
  obtain ⟨a, c, ks, rfl, rfl, ea, ec, q⟩ := h
  obtain rfl : v = Value.ref a := rx
  obtain rfl : u = Value.ref c := ry
  obtain ⟨_, ya, va, ra, da⟩ := (show ObjOk X.prog X.w H s.heap a (.dK ks) from I.hok a _ ea)
  obtain ⟨_, yc, vc, rc, dc⟩ := (show ObjOk X.prog X.w H s.heap c (.dK []) from I.hok c _ ec)
  have ec : vc = [] := by cases rc; rfl
  subst ec
  refine PySem.W.keq_ne (knd := mixKind X.prog X.w) (r := true) ya yc da dc hu (fun e => ?_) (fin_bl I q ?_)
  · have e0 : va = [] := List.length_eq_zero_iff.mp e
    subst e0
    exact .nil
  · cases ra with
    | nil => rfl
    | cons h1 h2 => rfl
end
end K19

namespace K19
open PySem PySem.Spec PyProof.Rows L2
/-! ### tuples that have no dict of their own, told so -/
/-- at a stands a tuple without a dict -/
def Bare (H : Hp) (a : Addr) : Prop := ∃ o xs, H a = some (.frz o (.tup xs)) ∧ o.dict = none
theorem Bare.same {H H' : Hp} {a : Addr} (s : Same H H') (b : Bare H a) : Bare H' a := by
  obtain ⟨o, xs, h, d⟩ := b
  exact ⟨o, xs, s _ _ h, d⟩
theorem sqT_frz {K : PySem.W.Frag} {H : Hp} {a : Addr} {o : Obj} {xs : List V} (h : H a = some (.frz o (.tup xs))) : SqT K H a xs := Or.inl (Or.inr ⟨o, h⟩)
section
variable {X : Cx} {es : List Expr} {t : TA} {pos : Pos}
def tTupF (t : TA) : TE := fun σ H Q => t σ H fun xs H1 => xs.length ≤ sizeLine ∧ ∀ p o, H1 p = none → o.dict = none → Q (.ref p) (upd H1 p (.frz o (.tup xs)))
theorem pe_tupF {x1} (h : PA X es t) : PE X (.Tuple es x1 pos) (tTupF t) := by
  refine ⟨fun pins s σ H Q I hq => wpAny_Tuple_spliced (thn (h.run pos pins s σ H _ I hq) fun us s1 ⟨xs, H1, I1, r, z, q⟩ => ⟨by rw [← r.length]; exact z, ?_⟩)⟩
  have fresh : H1 s1.heap.objs.size = none := I1.hok.fresh (Nat.le_refl _)
  have at_ : (s1.heap.push { cls := .type "tuple", data := .seq us.toArray }).get? s1.heap.objs.size = some { cls := .type "tuple", data := .seq us.toArray } := Heap.get?_push_size _ rfl
  refine ⟨.ref s1.heap.objs.size, _, I1.laid (t' := s1.toks) (o := .frz { cls := .type "tuple", data := .seq us.toArray } (.tup xs)) (fun b u e => Heap.get?_push_of_some _ e) (Nat.le_refl _) ?_, rfl, q _ _ fresh rfl⟩
  exact ⟨at_, z, us, r, ⟨_, at_, rfl, _, rfl⟩⟩
/-- t + u, the new tuple told to be bare -/
def rCatF (K : PySem.W.Frag) : R2 := fun x y H Q => ∃ a b xs ys, x = .ref a ∧ y = .ref b ∧ SqT K H a xs ∧ SqT K H b ys ∧ xs ≠ [] ∧ xs.length + ys.length ≤ sizeLine ∧
  (ys = [] → Q (.ref a) H) ∧ (ys ≠ [] → ∀ p o, H p = none → o.dict = none → Q (.ref p) (upd H p (.frz o (.tup (xs ++ ys)))))
theorem op_catF : OpR X (binaryOp .Add) (rCatF X.K) := by
  intro pins s σ H x y v u Q I rx ry h
  obtain ⟨a, b, xs, ys, rfl, rfl, ha, hb, hx, hz, q1, q2⟩ := h
  obtain rfl : v = Value.ref a := rx
  obtain rfl : u = Value.ref b := ry
  obtain ⟨its, r1, p1, _⟩ := I.tuple ha
  obtain ⟨its2, r2, p2, _⟩ := I.tuple hb
  refine HT.cat_tup p1 p2 (fun z => hx (r1.nil_iff.mp z)) (fun z => ⟨.ref a, H, I, rfl, q1 (r2.nil_iff.mp z)⟩) (fun z => ?_) (by rw [← r1.length, ← r2.length]; exact hz)
  have at_ : (s.heap.push { cls := .type "tuple", data := .seq (its ++ its2).toArray }).get? s.heap.objs.size = some { cls := .type "tuple", data := .seq (its ++ its2).toArray } := Heap.get?_push_size _ rfl
  refine ⟨.ref s.heap.objs.size, _, I.laid (t' := s.toks) (o := .frz { cls := .type "tuple", data := .seq (its ++ its2).toArray } (.tup (xs ++ ys))) (fun b ob q => Heap.get?_push_of_some _ q) (Nat.le_refl _) ?_, rfl, q2 (fun e => z (r2.nil_iff.mpr e)) _ _ (I.hok.fresh (Nat.le_refl _)) rfl⟩
  exact ⟨at_, by rw [List.length_append]; exact hz, _, r1.append r2, ⟨_, at_, rfl, _, rfl⟩⟩
/-- a method of a bare tuple -/
def tBB (r : V → List V → Hp → VK → Prop) (to : TE) (t : TA) : TE := fun σ H Q => to σ H fun x H1 => (∃ a, x = .ref a ∧ Bare H1 a) ∧ t σ H1 fun vs H2 => r x vs H2 Q
theorem pe_bare {o e : Expr} {name : Str} {id : String} {r : V → List V → Hp → VK → Prop} {to : TE} {apos cpos : Pos} (pa : PlainAttrs "tuple") (slot : Slot "tuple" name id) (hty : typeOf (.builtin id) = pure (.type "method_descriptor")) (hm : MtR X id r) (ho : PE X o to) (ha : PA X (e :: es) t)
    (hbase : attributeBase o name X.env (eval o X.env) = eval o X.env := by rfl)
    (hfew : ((backTo cpos (starEach (e :: es) X.env)).all (fun x => !x.1) && (backToKw cpos (keywordEach [] X.env)).all (fun x => x.1.isSome) && decide ((e :: es).length + ([] : List Keyword).length + (if ([] : List Keyword).isEmpty then 0 else 1) < 30)) = true := by rfl)
    (hline : (apos.endLine == cpos.line) = true := by rfl) (hs : starEach (e :: es) X.env = (false, eval e X.env) :: starEach es X.env := by rfl) (hpl : (backTo cpos (starEach es X.env)).any (·.1) = false := by rfl) :
    PE X (.Call (.Attribute o name apos) (e :: es) [] cpos) (tBB r to t) := by
  refine ⟨fun pins s σ H Q I h => wpAny_Call_method_late hbase hfew hline rfl (thn (ho.run pins s σ H _ I h) fun v s1 ⟨x, H1, I1, r1, ⟨a, ea, b⟩, q1⟩ => ?_)⟩
  subst ea
  obtain rfl : v = Value.ref a := r1
  obtain ⟨ob, xs, hb, hd⟩ := b
  obtain ⟨g1, _, its, rv, ⟨o2, g2, hc, _⟩⟩ := I1.hok a _ hb
  have e12 : ob = o2 := Option.some.inj (g1.symm.trans g2)
  subst e12
  refine ⟨"tuple", id, pa, slot, hty, ⟨ob, g1, hc⟩, fun a' e' => ?_, ?_⟩
  · cases e'
    exact ⟨ob, g1, hd⟩
  · have hA := ha.run cpos pins s1 σ H1 _ I1 q1
    rw [hs] at hA ⊢
    refine Calls.callWith_builtin (by show (false || (backTo cpos (starEach es X.env)).any (·.1)) = false; rw [hpl] <;> rfl) (Calls.evalArgs_plain ?_)
    exact thn hA fun us s2 ⟨vs, H2, I2, r2, q2⟩ => hm pins s2 σ H2 (.ref a) vs (.ref a) us Q I2 rfl r2 q2
end
end K19

namespace K19
open PySem PySem.Spec PyProof.Rows L2
/-! ### the text -/
def topS (i : Nat) : Stmt := PySem.Challenge.pw_plansamid_k19_whole_links_of_every_plan.main.body.getD i (.Pass ⟨0, 0, 0, 0⟩)
abbrev sWith : Stmt := topS 1
abbrev sOther : Stmt := topS 2
abbrev sOrders : Stmt := topS 6
abbrev sLinkTo : Stmt := topS 7
abbrev sLinksOf : Stmt := topS 8
abbrev sPlans : Stmt := topS 9
abbrev sPen : Stmt := topS 11
abbrev sTake : Stmt := topS 12
abbrev sNames : Stmt := topS 13
abbrev sSources : Stmt := topS 14
abbrev sLink : Stmt := topS 15
abbrev sLinks : Stmt := topS 16
abbrev sStands : Stmt := topS 17
abbrev sOtherwise : Stmt := topS 18
abbrev sRight : Stmt := topS 19
abbrev sLaw : Stmt := topS 20
end K19

namespace K19
open PySem PySem.Spec PyProof.Rows L2
/-! ### an ask as data -/
abbrev Sr := Src Str
abbrev wW : Str := "with"
def pairD (p : Pr Str) : PyData := .tuple [.str p.own, .str p.als, .str p.col]
def srcD (s : Sr) : PyData := .tuple [.str s.way, .str s.name, .str s.table, .tuple (s.pairs.map pairD)]
def askD (S : List Sr) (tl : List PyData) : PyData := .tuple (.tuple (S.map srcD) :: tl)
def vN (n : Nat) : V := .int (n : Int)

section
variable {K : PySem.W.Frag} {H : Hp}
/-- an ask, its sources, a source -/
theorem ask_at {v : V} {S : List Sr} {tl : List PyData} (h : Dp K H v (askD S tl)) : ∃ a xs s ys, v = .ref a ∧ SqT K H a xs ∧ xs[0]? = some (.ref s) ∧ SqT K H s ys ∧ ys.length = S.length ∧ DpAll K H ys (S.map srcD) := by
  obtain ⟨a, xs, e, h1, h2⟩ := dp_tup h
  cases h2 with
  | cons h3 h4 =>
    obtain ⟨s, ys, e2, h5, h6⟩ := dp_tup h3
    subst e2
    exact ⟨a, _, s, ys, e, h1, rfl, h5, by rw [dpAll_len h6, List.length_map], h6⟩
theorem src_at {v : V} {s : Sr} (h : Dp K H v (srcD s)) : ∃ a p, v = .ref a ∧ SqT K H a [.str s.way, .str s.name, .str s.table, .ref p] ∧ Dp K H (.ref p) (.tuple (s.pairs.map pairD)) := by
  obtain ⟨a, xs, e, h1, h2⟩ := dp_tup h
  cases h2 with
  | cons a1 b1 =>
    cases b1 with
    | cons a2 b2 =>
      cases b2 with
      | cons a3 b3 =>
        cases b3 with
        | cons a4 b4 =>
          cases b4
          obtain ⟨p, _, e4, _⟩ := dp_tup a4
          subst e4
          rw [dp_str a1, dp_str a2, dp_str a3] at h1
          exact ⟨a, p, e, h1, a4⟩
theorem pair_at {v : V} {p : Pr Str} (h : Dp K H v (pairD p)) : ∃ a, v = .ref a ∧ SqT K H a [.str p.own, .str p.als, .str p.col] := by
  obtain ⟨a, xs, e, h1, h2⟩ := dp_tup h
  cases h2 with
  | cons a1 b1 =>
    cases b1 with
    | cons a2 b2 =>
      cases b2 with
      | cons a3 b3 =>
        cases b3
        rw [dp_str a1, dp_str a2, dp_str a3] at h1
        exact ⟨a, e, h1⟩
theorem srcs_get {ys : List V} {S : List Sr} {i : Nat} {x : V} (h : DpAll K H ys (S.map srcD)) (e : ys[i]? = some x) : ∃ s, S[i]? = some s ∧ Dp K H x (srcD s) := by
  have hl : ys.length = S.length := by rw [dpAll_len h, List.length_map]
  have hi : i < S.length := by rw [← hl]; exact (List.getElem?_eq_some_iff.mp e).1
  obtain ⟨v, h1, h2⟩ := dpAll_get (i := i) (d := srcD S[i]) h (by rw [List.getElem?_map, List.getElem?_eq_getElem hi]; rfl)
  rw [e] at h1
  cases h1
  exact ⟨S[i], List.getElem?_eq_getElem hi, h2⟩
end

/-! ### with_numbers, other_numbers -/
def pick (P : Option Str → Bool) (S : List Sr) (n : Nat) : List Nat := (List.range n).filter fun k => P (S[k]?.map Src.way)
theorem pick_succ (P : Option Str → Bool) (S : List Sr) (n : Nat) : pick P S (n + 1) = pick P S n ++ if P (S[n]?.map Src.way) then [n] else [] := by
  unfold pick
  rw [List.range_succ, List.filter_append, List.filter_cons]
  rfl
theorem pick_len (P : Option Str → Bool) (S : List Sr) (n : Nat) : (pick P S n).length ≤ n := by
  have := List.length_filter_le (fun k => P (S[k]?.map Src.way)) (List.range n)
  rw [List.length_range] at this
  exact this
def spNums (P : Option Str → Bool) (K : PySem.W.Frag) : Sp := fun vs H Q _ => ∃ (a : Addr) (S : List Sr) (tl : List PyData), vs = [.ref a] ∧ Dp K H (.ref a) (askD S tl) ∧ S.length ≤ 1000 ∧
  ∀ H' p, Same H H' → H p = none → H' p = some (.lst ((pick P S S.length).map vN)) → Q (.ref p) H'
theorem scWith : FnScope ["ask", "number", "source"] ["ask"] (defScope sWith) := ⟨rfl, rfl, rfl, by decide +kernel, rfl, by decide +kernel, by decide +kernel⟩
theorem scOther : FnScope ["ask", "number", "source"] ["ask"] (defScope sOther) := ⟨rfl, rfl, rfl, by decide +kernel, rfl, by decide +kernel, by decide +kernel⟩
abbrev isW : Option Str → Bool := fun o => decide (o = some wW)
abbrev noW : Option Str → Bool := fun o => !decide (o = some wW)
section
variable {P : Program} {w : World} {K : PySem.W.Frag} {mg : Str → Option Value} {base : Heap}
theorem ok_with {f : Addr} {fd : FuncData} {k : Nat} (F : Fun K "with_numbers" "with_numbers" sWith f fd) (me : mg "enumerate" = none) : FnOk P w K mg base CX0 (k + 1) f fd ["ask"] (spNums isW K) := by
  refine F.ok scWith (fun vs H Q E h => ?_) (fun cdv A outer s H vs Q E hr h => ?_)
  · obtain ⟨a, S, tl, rfl, _⟩ := h
    rfl
  · obtain ⟨a, S, tl, rfl, hA, hlen, q⟩ := h
    refine ⟨_, pss_one (ps_ret (pe_lc (own := [("number", 1), ("source", 2)]) (g := gTup K 2 (gCons (gName 1) (gCons (gName 2) gNil))) (tt := tB (tOp rEq (tOp (rIxT K) (tVar 2) (tC (.int 0))) (tC (.str wW)))) (te := tVar 1) rfl scWith.nd (pi_enumT (by rfl) me (pa_cons (pe_ix ix_tup (pv 0) pe_int (fun _ _ => rfl)) pa_nil))
      (blkOk_by (own := [("number", 1), ("source", 2)]) (N := ["ask", "number", "source"]) (sc := defScope sWith) (by decide +kernel))
      (fun _ _ _ _ _ => pg_tup rfl (pgs_cons (pg_name (i := 1) scWith.nd rfl (Or.inl rfl)) (pgs_cons (pg_name (i := 2) scWith.nd rfl (Or.inl rfl)) pgs_nil)))
      (fun _ _ _ _ _ => pts_one (pt_cmpR op_eq (pe_ix ix_tup (pv 2) pe_int (fun _ _ => rfl)) pe_str (nomark _)))
      (fun _ _ _ _ _ => pv 1))), ?_⟩
    obtain ⟨a', xs, s, ys, e, h1, h2, h3, h4, h5⟩ := ask_at hA
    cases e
    refine ⟨.ref a, rfl, a, xs, 0, .ref s, rfl, rfl, h1, atI_nat (j := 0) h2, s, ys, rfl, h3, fun D hD => ?_⟩
    have sD : Same H (upd H D (.lst [])) := same_new hD
    refine lc_it walk_enumT (fun i H' => Same H H' ∧ H' D = some (.lst ((pick isW S i).map vN))) ⟨sD, upd_same⟩ (fun i H' _ p => same_tup p.1 h3) (fun i x H1 H2 hi hp hy => ?_) (fun H' p => q H' D p.1 hD (by rw [← h4]; exact p.2))
    obtain ⟨hs, hl⟩ := hp
    obtain ⟨T, x1, x2, rfl, nT, rfl, e1, e2⟩ := hy
    cases e1
    obtain ⟨sr, g1, g2⟩ := srcs_get h5 e2
    have sT := same_new (o := .tup [.int (i : Nat), x2]) nT
    obtain ⟨b, pp, rfl, g3, _⟩ := src_at (same_dp (hs.trans sT) _ _ g2)
    refine ⟨T, [.int (i : Nat), .ref b], rfl, SqT.of upd_same, rfl, _, _, rfl, _, _, rfl, rfl, rfl, ?_⟩
    refine ⟨.ref b, rfl, b, _, 0, .str sr.way, rfl, rfl, g3, atI_nat (j := 0) rfl, rfl, _, rfl, ?_⟩
    have nTD : D ≠ T := ne_of_none hl nT
    have hl2 : (upd H1 T (.tup [.int (i : Nat), .ref b])) D = some (.lst ((pick isW S i).map vN)) := by
      rw [upd_ne nTD]
      exact hl
    have hz : ((pick isW S i).map vN).length < sizeLine := by
      rw [List.length_map]
      have := pick_len isW S i
      exact small1000 (by omega)
    have sk : Same H (upd H1 T (.tup [.int (i : Nat), .ref b])) := hs.trans sT
    have ew : S[i]?.map Src.way = some sr.way := by rw [g1]; rfl
    have hps := pick_succ isW S i
    rw [ew] at hps
    by_cases c : sr.way = wW
    · rw [show decide (V.str sr.way = V.str wW) = true from decide_eq_true (congrArg V.str c)]
      refine ⟨_, rfl, _, hl2, hz, fun c' o' e' => ?_, ?_⟩
      · have nc : c' ≠ D := fun z => by
          subst z
          rw [hD] at e'
          cases e'
        rw [upd_ne nc]
        exact sk c' o' e'
      · rw [upd_same, hps, List.map_append, show isW (some sr.way) = true from decide_eq_true (congrArg some c)]
        rfl
    · rw [show decide (V.str sr.way = V.str wW) = false from decide_eq_false (fun z => c (V.str.inj z))]
      refine ⟨sk, ?_⟩
      rw [hl2, hps, List.map_append, show isW (some sr.way) = false from decide_eq_false (fun z => c (Option.some.inj z))]
      rw [show (if false = true then [i] else []) = ([] : List Nat) from rfl, List.map_nil, List.append_nil]
theorem ok_other {f : Addr} {fd : FuncData} {k : Nat} (F : Fun K "other_numbers" "other_numbers" sOther f fd) (me : mg "enumerate" = none) : FnOk P w K mg base CX0 (k + 1) f fd ["ask"] (spNums noW K) := by
  refine F.ok scOther (fun vs H Q E h => ?_) (fun cdv A outer s H vs Q E hr h => ?_)
  · obtain ⟨a, S, tl, rfl, _⟩ := h
    rfl
  · obtain ⟨a, S, tl, rfl, hA, hlen, q⟩ := h
    refine ⟨_, pss_one (ps_ret (pe_lc (own := [("number", 1), ("source", 2)]) (g := gTup K 2 (gCons (gName 1) (gCons (gName 2) gNil))) (tt := tB (tOp rNe (tOp (rIxT K) (tVar 2) (tC (.int 0))) (tC (.str wW)))) (te := tVar 1) rfl scOther.nd (pi_enumT (by rfl) me (pa_cons (pe_ix ix_tup (pv 0) pe_int (fun _ _ => rfl)) pa_nil))
      (blkOk_by (own := [("number", 1), ("source", 2)]) (N := ["ask", "number", "source"]) (sc := defScope sOther) (by decide +kernel))
      (fun _ _ _ _ _ => pg_tup rfl (pgs_cons (pg_name (i := 1) scOther.nd rfl (Or.inl rfl)) (pgs_cons (pg_name (i := 2) scOther.nd rfl (Or.inl rfl)) pgs_nil)))
      (fun _ _ _ _ _ => pts_one (pt_cmpR op_ne (pe_ix ix_tup (pv 2) pe_int (fun _ _ => rfl)) pe_str (nomark _)))
      (fun _ _ _ _ _ => pv 1))), ?_⟩
    obtain ⟨a', xs, s, ys, e, h1, h2, h3, h4, h5⟩ := ask_at hA
    cases e
    refine ⟨.ref a, rfl, a, xs, 0, .ref s, rfl, rfl, h1, atI_nat (j := 0) h2, s, ys, rfl, h3, fun D hD => ?_⟩
    have sD : Same H (upd H D (.lst [])) := same_new hD
    refine lc_it walk_enumT (fun i H' => Same H H' ∧ H' D = some (.lst ((pick noW S i).map vN))) ⟨sD, upd_same⟩ (fun i H' _ p => same_tup p.1 h3) (fun i x H1 H2 hi hp hy => ?_) (fun H' p => q H' D p.1 hD (by rw [← h4]; exact p.2))
    obtain ⟨hs, hl⟩ := hp
    obtain ⟨T, x1, x2, rfl, nT, rfl, e1, e2⟩ := hy
    cases e1
    obtain ⟨sr, g1, g2⟩ := srcs_get h5 e2
    have sT := same_new (o := .tup [.int (i : Nat), x2]) nT
    obtain ⟨b, pp, rfl, g3, _⟩ := src_at (same_dp (hs.trans sT) _ _ g2)
    refine ⟨T, [.int (i : Nat), .ref b], rfl, SqT.of upd_same, rfl, _, _, rfl, _, _, rfl, rfl, rfl, ?_⟩
    refine ⟨.ref b, rfl, b, _, 0, .str sr.way, rfl, rfl, g3, atI_nat (j := 0) rfl, rfl, _, rfl, ?_⟩
    have nTD : D ≠ T := ne_of_none hl nT
    have hl2 : (upd H1 T (.tup [.int (i : Nat), .ref b])) D = some (.lst ((pick noW S i).map vN)) := by
      rw [upd_ne nTD]
      exact hl
    have hz : ((pick noW S i).map vN).length < sizeLine := by
      rw [List.length_map]
      have := pick_len noW S i
      exact small1000 (by omega)
    have sk : Same H (upd H1 T (.tup [.int (i : Nat), .ref b])) := hs.trans sT
    have ew : S[i]?.map Src.way = some sr.way := by rw [g1]; rfl
    have hps := pick_succ noW S i
    rw [ew] at hps
    by_cases c : sr.way = wW
    · rw [show decide (V.str sr.way = V.str wW) = true from decide_eq_true (congrArg V.str c)]
      refine ⟨sk, ?_⟩
      rw [hl2, hps, List.map_append, show noW (some sr.way) = false by rw [c]; rfl]
      rw [show (if false = true then [i] else []) = ([] : List Nat) from rfl, List.map_nil, List.append_nil]
    · rw [show decide (V.str sr.way = V.str wW) = false from decide_eq_false (fun z => c (V.str.inj z))]
      refine ⟨_, rfl, _, hl2, hz, fun c' o' e' => ?_, ?_⟩
      · have nc : c' ≠ D := fun z => by
          subst z
          rw [hD] at e'
          cases e'
        rw [upd_ne nc]
        exact sk c' o' e'
      · rw [upd_same, hps, List.map_append, show noW (some sr.way) = true by
          show (!decide (some sr.way = some wW)) = true
          rw [decide_eq_false (fun z => c (Option.some.inj z))]
          rfl]
        rfl
end
end K19

namespace K19
open PySem PySem.Spec PyProof.Rows L2
/-- a block by what it needs -/
theorem pss_weak {X : Cx} {st : List Stmt} {t t' : TS} (h : PSs X st t) (i : ∀ D σ H, t' D σ H → t D σ H) : PSs X st t' := ⟨fun pins s σ H D I q => h.run pins s σ H D I (i D σ H q)⟩

/-! ### the pen -/
/-- a pen: its numbers' list, how many were begun, what is left of a great one -/
def P3 (S : Addr) (at_ left : Int) : HO := .lst [.ref S, .int at_, .int left]
theorem p3_ne {H : Hp} {p S : Addr} {a l : Int} {ms : List Int} (h : H p = some (P3 S a l)) (g : H S = some (.lst (ms.map V.int))) : S ≠ p := by
  refine ne_of g h fun e => ?_
  have e2 : ms.map V.int = [.ref S, .int a, .int l] := HO.lst.inj e
  cases ms with
  | nil => cases e2
  | cons x r => cases e2
theorem scPen : FnScope ["_law_script"] ["_law_script"] (defScope sPen) := ⟨rfl, rfl, rfl, by decide +kernel, rfl, by decide +kernel, by decide +kernel⟩
def spPen (K : PySem.W.Frag) : Sp := fun vs H Q _ => ∃ (a : Addr) (ns : List Int), vs = [.ref a] ∧ SqL K H a (ns.map V.int) ∧
  ∀ (H' : Hp) (p S : Addr) (ms : List Int), Same H H' → H p = none → H S = none → H' p = some (P3 S 0 0) → H' S = some (.lst (ms.map V.int)) → Q (.ref p) H'
section
variable {P : Program} {w : World} {K : PySem.W.Frag} {mg : Str → Option Value} {base : Heap}
theorem cut_ints (ns : List Int) (lo hi : Option Int) : ∃ ms : List Int, cutV (ns.map V.int) lo hi = ms.map V.int := by
  unfold cutV
  rw [← List.map_drop, ← List.map_take]
  exact ⟨_, rfl⟩
theorem ok_pen {f : Addr} {fd : FuncData} {k : Nat} (F : Fun K "_law_pen" "_law_pen" sPen f fd) : FnOk P w K mg base CX0 (k + 1) f fd ["_law_script"] (spPen K) := by
  refine F.ok scPen (fun vs H Q E h => ?_) (fun cdv A outer s H vs Q E hr h => ?_)
  · obtain ⟨a, ns, rfl, _⟩ := h
    rfl
  · obtain ⟨a, ns, rfl, hS, q⟩ := h
    refine ⟨_, pss_one (ps_ret (pe_lst (pa_cons (pe_slice sl_list (pv 0) po_none (po_some pe_int)) (pa_cons pe_int (pa_cons pe_int pa_nil))))), ?_⟩
    obtain ⟨ms, hm⟩ := cut_ints ns none (some 63)
    refine ⟨.ref a, rfl, 63, rfl, a, ns.map V.int, rfl, hS, fun S hn => ⟨by show 3 ≤ sizeLine; decide, fun p hp => ?_⟩⟩
    have nSp : S ≠ p := ne_of_none upd_same hp
    have hp0 : H p = none := by
      rw [upd_ne nSp.symm] at hp
      exact hp
    refine q _ p S ms ((same_new hn).trans (same_new hp)) hp0 hn upd_same ?_
    rw [upd_ne nSp, upd_same, hm]

/-! ### _law_take -/
theorem scTake : FnScope ["_law_pen_here", "_law_many", "_law_digit", "_law_at", "_law_cell", "_law_whole", "_law_mixed"] ["_law_pen_here", "_law_many"] (defScope sTake) := ⟨rfl, rfl, rfl, by decide +kernel, rfl, by decide +kernel, by decide +kernel⟩
/-- a number below m is told, the pen goes on by a cell at most -/
def spTake : Sp := fun vs H Q _ => ∃ (p S : Addr) (m at_ left : Int) (ms : List Int), vs = [.ref p, .int m] ∧ (1 ≤ m ∧ m ≤ 100) ∧ H p = some (P3 S at_ left) ∧ H S = some (.lst (ms.map V.int)) ∧ (0 ≤ at_ ∧ at_ ≤ 1000000) ∧ 0 ≤ left ∧
  ∀ (H' : Hp) (d at2 left2 : Int), 0 ≤ d → d < m → at_ ≤ at2 → at2 ≤ at_ + 1 → 0 ≤ left2 → (∀ b, b ≠ p → H' b = H b) → H' p = some (P3 S at2 left2) → Q (.int d) H'
/-- behind the cell's choice -/
def tTail : TS := fun D σ H => ∃ (p S : Addr) (m at_ left c : Int) (ms : List Int) (x2 x5 x6 : Option V), σ = [some (.ref p), some (.int m), x2, some (.int at_), some (.int c), x5, x6] ∧ (1 ≤ m ∧ m ≤ 100) ∧ H p = some (P3 S (at_ + 1) left) ∧
  H S = some (.lst (ms.map V.int)) ∧ (0 ≤ at_ ∧ at_ ≤ 1000000) ∧ 0 ≤ left ∧ ∀ d left2 : Int, 0 ≤ d → d < m → 0 ≤ left2 → D.rt (.int d) (upd H p (P3 S (at_ + 1) left2))
abbrev cxTake (P : Program) (w : World) (K : PySem.W.Frag) (mg : Str → Option Value) (base : Heap) (f : Addr) (cdv : Value) (A : Around) (outer : List Env) (s : Shared) (H : Hp) (E : XK) : Cx :=
  (cxOf CX0 P w K mg base ["_law_pen_here", "_law_many", "_law_digit", "_law_at", "_law_cell", "_law_whole", "_law_mixed"] "_law_take" (defScope sTake) f cdv A outer s H E).nox
theorem mix1 {r a : Int} (h0 : 0 ≤ a) (h1 : a ≤ 1000000) (r0 : 0 ≤ r) (r1 : r < 2147483563) : (r + 43037 * a * a + 28657 * a + 71).natAbs < 2 ^ 64 := by
  have e1 : a * a ≤ 1000000 * 1000000 := Int.mul_le_mul h1 h1 h0 (by decide)
  have e0 : 0 ≤ a * a := Int.mul_nonneg h0 h0
  have e2 : 43037 * a * a = 43037 * (a * a) := Int.mul_assoc ..
  rw [e2]
  omega
theorem mix2 {x y : Int} (x0 : 0 ≤ x) (x1 : x < 2147483647) (y0 : 0 ≤ y) (y1 : y < 991) : (x * (y + 7) + 50021).natAbs < 2 ^ 64 := by
  have e1 : x * (y + 7) ≤ 2147483647 * 1000 := Int.mul_le_mul (by omega) (by omega) (by omega) (by decide)
  have e0 : 0 ≤ x * (y + 7) := Int.mul_nonneg x0 (by omega)
  omega
theorem ok_tail (f : Addr) (cdv : Value) (A : Around) (outer : List Env) (s : Shared) (H : Hp) (E : XK) (ml : mg "len" = none) (ma : mg "abs" = none) (mi : mg "int" = none) :
    PSs (cxTake P w K mg base f cdv A outer s H E) ((defBody sTake).drop 5) tTail := by
  refine pss_weak (pss_cons (ps_if (PW.pt (pw_and (pt_cmpR op_lt (pv 3) (pe_callB call_len_seq (by rfl) ml PySem.boot_len (pa_cons (pe_ix ix_list (pv 0) pe_int (fun _ _ => rfl)) pa_nil)) (nomark _))
        (pw_and1 (pt_cmpR op_ge (pe_callB call_abs (by rfl) ma (by decide +kernel) (pa_cons (pv 4) pa_nil)) (pe_op op_pow pe_int pe_int) (nomark _)))))
      (pss_cons (ps_set (i := 5) scTake.nd rfl (.inl rfl) (pe_op op_add (pe_op op_mul pe_int (pe_callB call_abs (by rfl) ma (by decide +kernel) (pa_cons (pv 4) pa_nil)))
          (pe_callTy call_int1 (by rfl) mi (by decide +kernel) (pa_cons (pe_cmpR op_lt (pv 4) pe_int (nomark _)) pa_nil))))
        (pss_cons (ps_asg (pe_op op_fdiv (pv 5) (pv 1)) (pg_sub (pv 0) pe_int set_list)) (pss_one (ps_ret (pe_op op_mod (pv 5) (pv 1)))))) pss_nil)
    (pss_cons (ps_set (i := 6) scTake.nd rfl (.inl rfl) (pe_op op_mod (pe_op op_pow (pe_op op_add (pe_op op_add (pe_op op_add (pe_op op_mod (pv 4) pe_int) (pe_op op_mul (pe_op op_mul pe_int (pv 3)) (pv 3))) (pe_op op_mul pe_int (pv 3))) pe_int) pe_int) pe_int))
    (pss_cons (ps_set (i := 6) scTake.nd rfl (.inl rfl) (pe_op op_mod (pe_op op_pow (pe_op op_add (pe_op op_mul (pv 6) (pe_op op_add (pe_op op_mod (pv 3) pe_int) pe_int)) pe_int) pe_int) pe_int))
    (pss_one (ps_ret (pe_op op_mod (pe_op op_fdiv (pv 6) pe_int) (pv 1))))))) fun D σ H1 h => ?_
  obtain ⟨p, S, m, a, left, c, ms, x2, x5, x6, rfl, ⟨m1, m2⟩, hp, hs, ⟨a1, a2⟩, l0, q⟩ := h
  have hpL : SqL K H1 p [.ref S, .int (a + 1), .int left] := SqL.of hp
  have hsL : SqL K H1 S (ms.map V.int) := SqL.of hs
  have hm : 0 < m := by omega
  -- the numbers behind
  have low : ∀ (x5 : Option V), tSeq (tAsg (tOp (rI (fun _ j => 0 < j) fun i j => .int (i % j)) (tOp (rI CPow fun i j => .int (i ^ j.toNat)) (tOp (rI0 fun i j => .int (i + j)) (tOp (rI0 fun i j => .int (i + j)) (tOp (rI0 fun i j => .int (i + j)) (tOp (rI (fun _ j => 0 < j) fun i j => .int (i % j)) (tVar 4) (tC (.int 2147483563)))
        (tOp (rI CMul fun i j => .int (i * j)) (tOp (rI CMul fun i j => .int (i * j)) (tC (.int 43037)) (tVar 3)) (tVar 3))) (tOp (rI CMul fun i j => .int (i * j)) (tC (.int 28657)) (tVar 3))) (tC (.int 71))) (tC (.int 5))) (tC (.int 2147483647))) (gName 6))
      (tSeq (tAsg (tOp (rI (fun _ j => 0 < j) fun i j => .int (i % j)) (tOp (rI CPow fun i j => .int (i ^ j.toNat)) (tOp (rI0 fun i j => .int (i + j)) (tOp (rI CMul fun i j => .int (i * j)) (tVar 6) (tOp (rI0 fun i j => .int (i + j)) (tOp (rI (fun _ j => 0 < j) fun i j => .int (i % j)) (tVar 3) (tC (.int 991))) (tC (.int 7)))) (tC (.int 50021))) (tC (.int 3))) (tC (.int 2147483587))) (gName 6))
      (tRet (tOp (rI (fun _ j => 0 < j) fun i j => .int (i % j)) (tOp (rI CDiv fun i j => .int (i / j)) (tVar 6) (tC (.int 32))) (tVar 1)))) D [some (.ref p), some (.int m), x2, some (.int a), some (.int c), x5, x6] H1 := fun x5 => by
    have r0 : 0 ≤ c % 2147483563 := Int.emod_nonneg _ (by decide)
    have r1 : c % 2147483563 < 2147483563 := Int.emod_lt_of_pos _ (by decide)
    have b1 := mix1 a1 a2 r0 r1
    refine ⟨_, rfl, _, _, rfl, rfl, (by show (0 : Int) < 2147483563; decide), _, rfl, _, _, rfl, rfl, .inl ⟨by decide, by decide⟩, _, rfl, _, _, rfl, rfl, .inl ⟨by omega, by omega⟩, _, _, rfl, rfl, _, rfl, _, _, rfl, rfl, .inl ⟨by decide, by decide⟩, _, _, rfl, rfl, _, _, rfl, rfl, _, _, rfl, rfl, ⟨by decide, by decide, b1⟩, _, _, rfl, rfl, (by show (0 : Int) < 2147483647; decide), ?_⟩
    obtain ⟨x, hx⟩ : ∃ x, (c % 2147483563 + 43037 * a * a + 28657 * a + 71) ^ Int.toNat 5 % 2147483647 = x := ⟨_, rfl⟩
    have x0 : 0 ≤ x := by rw [← hx]; exact Int.emod_nonneg _ (by decide)
    have x1 : x < 2147483647 := by rw [← hx]; exact Int.emod_lt_of_pos _ (by decide)
    have y0 : 0 ≤ a % 991 := Int.emod_nonneg _ (by decide)
    have y1 : a % 991 < 991 := Int.emod_lt_of_pos _ (by decide)
    have b2 := mix2 x0 x1 y0 y1
    refine ⟨.int x, (by rw [← hx]; rfl), .int a, rfl, _, _, rfl, rfl, (by show (0 : Int) < 991; decide), _, _, rfl, rfl, _, _, rfl, rfl, .inl ⟨by omega, by omega⟩, _, _, rfl, rfl, _, _, rfl, rfl, ⟨by decide, by decide, b2⟩, _, _, rfl, rfl, (by show (0 : Int) < 2147483587; decide), ?_⟩
    obtain ⟨z, hz⟩ : ∃ z, (x * (a % 991 + 7) + 50021) ^ Int.toNat 3 % 2147483587 = z := ⟨_, rfl⟩
    refine ⟨.int z, (by rw [← hz]; rfl), _, _, rfl, rfl, ⟨by decide, by decide⟩, .int m, rfl, _, _, rfl, rfl, hm, ?_⟩
    have g := q (z / 32 % m) left (Int.emod_nonneg _ (by omega)) (Int.emod_lt_of_pos _ hm) l0
    have e : upd H1 p (P3 S (a + 1) left) = H1 := by
      funext b
      unfold upd
      split
      · rename_i hb
        rw [hb, hp]
      · rfl
    rw [e] at g
    exact g
  refine ⟨.int a, rfl, .ref p, rfl, p, _, 0, .ref S, rfl, rfl, hpL, atI_nat (j := 0) rfl, S, ms.map V.int, rfl, .inl hsL, _, _, rfl, rfl, _, rfl, ?_⟩
  refine ite2 (fun e => ?_) (fun e => ?_)
  · refine ⟨.int c, rfl, c, rfl, _, _, rfl, rfl, ⟨by decide, by decide, by decide⟩, _, _, rfl, rfl, _, rfl, ite2 (fun e2 => ?_) (fun e2 => ?_)⟩
    · refine ⟨.int c, rfl, c, rfl, _, _, rfl, rfl, .inl ⟨by decide, by decide⟩, .int c, rfl, c, 0, rfl, rfl, .inr ⟨_, rfl, _, _, rfl, rfl, ?_⟩⟩
      obtain ⟨u, hu⟩ : ∃ u, 2 * (if c < 0 then -c else c) + (if decide (c < 0) = true then (1 : Int) else 0) = u := ⟨_, rfl⟩
      have u0 : 0 ≤ u := by
        rw [← hu]
        by_cases hc : c < 0
        · rw [if_pos hc, if_pos (decide_eq_true hc)]
          omega
        · rw [if_neg hc, if_neg (by simpa using hc)]
          omega
      refine ⟨.int u, (by rw [← hu]; rfl), .int m, rfl, _, _, rfl, rfl, ⟨hm, by omega⟩, .ref p, rfl, p, _, 2, 2, rfl, rfl, hp, rfl, ?_⟩
      refine ⟨.int u, (by rw [← hu]; rfl), .int m, rfl, _, _, rfl, rfl, hm, ?_⟩
      exact q (u % m) (u / m) (Int.emod_nonneg _ (by omega)) (Int.emod_lt_of_pos _ hm) (Int.ediv_nonneg u0 (by omega))
    · exact low x5
  · exact low x5
theorem ok_take {f : Addr} {fd : FuncData} {k : Nat} (F : Fun K "_law_take" "_law_take" sTake f fd) (ml : mg "len" = none) (ma : mg "abs" = none) (mi : mg "int" = none) : FnOk P w K mg base CX0 (k + 1) f fd ["_law_pen_here", "_law_many"] spTake := by
  refine F.ok scTake (fun vs H Q E h => ?_) (fun cdv A outer s H vs Q E hr h => ?_)
  · obtain ⟨p, S, m, a, left, ms, rfl, _⟩ := h
    rfl
  · obtain ⟨p, S, m, a, left, ms, rfl, ⟨m1, m2⟩, hp, hs, ⟨a1, a2⟩, l0, q⟩ := h
    refine ⟨_, pss_cons (ps_if (pt_cmpR op_gt (pe_ix ix_list (pv 0) pe_int (fun _ _ => rfl)) pe_int (nomark _))
        (pss_cons (ps_set (i := 2) scTake.nd rfl (.inl rfl) (pe_op op_mod (pe_ix ix_list (pv 0) pe_int (fun _ _ => rfl)) (pv 1)))
          (pss_cons (ps_asg (pe_op op_fdiv (pe_ix ix_list (pv 0) pe_int (fun _ _ => rfl)) (pv 1)) (pg_sub (pv 0) pe_int set_list)) (pss_one (ps_ret (pv 2))))) pss_nil)
      (pss_cons (ps_set (i := 3) scTake.nd rfl (.inl rfl) (pe_ix ix_list (pv 0) pe_int (fun _ _ => rfl)))
      (pss_cons (ps_asg (pe_op op_add (pv 3) pe_int) (pg_sub (pv 0) pe_int set_list))
      (pss_cons (ps_set (i := 4) scTake.nd rfl (.inl rfl) (pe_op op_add (pe_op op_mul pe_int (pv 3)) pe_int))
      (pss_cons (ps_if (pt_cmpR op_gt (pe_callB call_len_seq (by rfl) ml PySem.boot_len (pa_cons (pe_ix ix_list (pv 0) pe_int (fun _ _ => rfl)) pa_nil)) pe_int (nomark _))
          (pss_one (ps_set (i := 4) scTake.nd rfl (.inl rfl) (pe_ix ix_list (pe_ix ix_list (pv 0) pe_int (fun _ _ => rfl)) (pe_op op_mod (pv 3) (pe_callB call_len_seq (by rfl) ml PySem.boot_len (pa_cons (pe_ix ix_list (pv 0) pe_int (fun _ _ => rfl)) pa_nil))) (fun _ _ => rfl)))) pss_nil)
        (ok_tail f cdv A outer s H E ml ma mi))))), ?_⟩
    have hpL : SqL K H p [.ref S, .int a, .int left] := SqL.of hp
    have hm : 0 < m := by omega
    refine ⟨.ref p, rfl, p, _, 2, .int left, rfl, rfl, hpL, atI_nat (j := 2) rfl, _, _, rfl, rfl, _, rfl, ite2 (fun e => ?_) (fun e => ?_)⟩
    · have l1 : 0 < left := of_decide_eq_true e
      refine ⟨.ref p, rfl, p, _, 2, .int left, rfl, rfl, hpL, atI_nat (j := 2) rfl, .int m, rfl, _, _, rfl, rfl, hm, ?_⟩
      refine ⟨.ref p, rfl, p, _, 2, .int left, rfl, rfl, hpL, atI_nat (j := 2) rfl, .int m, rfl, _, _, rfl, rfl, ⟨hm, by omega⟩, .ref p, rfl, p, _, 2, 2, rfl, rfl, hp, rfl, ?_⟩
      refine ⟨_, rfl, ?_⟩
      exact q _ (left % m) a (left / m) (Int.emod_nonneg _ (by omega)) (Int.emod_lt_of_pos _ hm) (Int.le_refl _) (by omega) (Int.ediv_nonneg l0 (by omega)) (fun b nb => upd_ne nb) upd_same
    · refine ⟨.ref p, rfl, p, _, 1, .int a, rfl, rfl, hpL, atI_nat (j := 1) rfl, ?_⟩
      refine ⟨.int a, rfl, _, _, rfl, rfl, .ref p, rfl, p, _, 1, 1, rfl, rfl, hp, rfl, ?_⟩
      refine ⟨.int a, rfl, _, _, rfl, rfl, .inl ⟨by decide, by decide⟩, _, _, rfl, rfl, ?_⟩
      have nSp : S ≠ p := p3_ne hp hs
      have hp2 : (upd H p (P3 S (a + 1) left)) p = some (P3 S (a + 1) left) := upd_same
      have hs2 : (upd H p (P3 S (a + 1) left)) S = some (.lst (ms.map V.int)) := by
        rw [upd_ne nSp]
        exact hs
      have fin : ∀ d left2 : Int, 0 ≤ d → d < m → 0 ≤ left2 → Q (.int d) (upd (upd H p (P3 S (a + 1) left)) p (P3 S (a + 1) left2)) := fun d left2 d0 d1 e0 => by
        rw [upd_upd]
        exact q _ d (a + 1) left2 d0 d1 (by omega) (by omega) e0 (fun b nb => upd_ne nb) upd_same
      have hpL2 : SqL K (upd H p (P3 S (a + 1) left)) p [.ref S, .int (a + 1), .int left] := SqL.of hp2
      have hsL2 : SqL K (upd H p (P3 S (a + 1) left)) S (ms.map V.int) := SqL.of hs2
      refine ⟨.ref p, rfl, p, _, 0, .ref S, rfl, rfl, hpL2, atI_nat (j := 0) rfl, S, ms.map V.int, rfl, .inl hsL2, _, _, rfl, rfl, _, rfl, ite2 (fun e2 => ?_) (fun e2 => ?_)⟩
      · have n0 : (0 : Int) < ((ms.map V.int).length : Int) := of_decide_eq_true e2
        rw [List.length_map] at n0
        have i0 : 0 ≤ a % (ms.length : Int) := Int.emod_nonneg _ (by omega)
        have i1 : a % (ms.length : Int) < (ms.length : Int) := Int.emod_lt_of_pos _ n0
        obtain ⟨j, hj⟩ : ∃ j : Nat, (j : Int) = a % (ms.length : Int) := ⟨(a % (ms.length : Int)).toNat, Int.toNat_of_nonneg i0⟩
        have jl : j < ms.length := by omega
        have at1 : atI (ms.map V.int) (a % ((ms.map V.int).length : Int)) = some (.int ms[j]) := by
          rw [List.length_map, ← hj]
          exact atI_nat (by rw [List.getElem?_map, List.getElem?_eq_getElem jl]; rfl)
        refine ⟨.ref p, rfl, p, _, 0, .ref S, rfl, rfl, hpL2, atI_nat (j := 0) rfl, .int a, rfl, .ref p, rfl, p, _, 0, .ref S, rfl, rfl, hpL2, atI_nat (j := 0) rfl, S, ms.map V.int, rfl, .inl hsL2, _, _, rfl, rfl, (by rw [List.length_map]; exact n0), S, ms.map V.int, _, .int ms[j], rfl, rfl, hsL2, at1, ?_⟩
        exact ⟨p, S, m, a, left, ms[j], ms, none, none, none, rfl, ⟨m1, m2⟩, hp2, hs2, ⟨a1, a2⟩, l0, fin⟩
      · exact ⟨p, S, m, a, left, 59 * a + 31, ms, none, none, none, rfl, ⟨m1, m2⟩, hp2, hs2, ⟨a1, a2⟩, l0, fin⟩
end
end K19

namespace K19
open PySem PySem.Spec PyProof.Rows L2
/-! ### names -/
/-- a text of at most eight plain signs -/
def Sh (x : Str) : Prop := x.length ≤ 8 ∧ ∀ c ∈ x.cps.toList, c < 128
abbrev alphabet : Str := "abcdefghijklmnopqrstuvwxyz"
def endings : List Str := ["", "", "a", "with", "abcdefg"]
def sign1 (n : Nat) : Str := ⟨#[97 + n]⟩
def nameK (first : Nat) (e : Str) (k : Nat) : Str := sign1 ((first + 3 * k) % 26) ++ e
def namesK (first : Nat) (e : Str) (n : Nat) : List Str := (List.range n).map (nameK first e)
theorem cps_append (x y : Str) : (x ++ y).cps.toList = x.cps.toList ++ y.cps.toList := by
  show (x.cps ++ y.cps).toList = _
  exact Array.toList_append
theorem nameK_inj {first : Nat} {e : Str} {i j : Nat} (hi : i < 5) (hj : j < 5) (h : nameK first e i = nameK first e j) : i = j := by
  have h1 := congrArg (fun z : Str => z.cps.toList) h
  simp only [nameK, cps_append] at h1
  have h2 : ((97 + (first + 3 * i) % 26) :: e.cps.toList) = ((97 + (first + 3 * j) % 26) :: e.cps.toList) := h1
  have h3 := (List.cons.inj h2).1
  omega
theorem namesK_nodup (first : Nat) (e : Str) : (namesK first e 5).Nodup := by
  unfold namesK
  rw [List.nodup_iff_pairwise_ne, List.pairwise_map]
  refine List.Pairwise.imp_of_mem (fun {a b} ha hb hab => ?_) (List.nodup_range (n := 5))
  intro h
  exact hab (nameK_inj (List.mem_range.mp ha) (List.mem_range.mp hb) h)
theorem end_short : ∀ e ∈ endings, e.length ≤ 7 ∧ ∀ c ∈ e.cps.toList, c < 128 := by decide +kernel
theorem nameK_short {first : Nat} {e : Str} (he : e ∈ endings) (k : Nat) : Sh (nameK first e k) := by
  obtain ⟨h1, h2⟩ := end_short e he
  refine ⟨?_, fun c hc => ?_⟩
  · unfold nameK
    rw [Str.length_append]
    show 1 + e.length ≤ 8
    omega
  · unfold nameK at hc
    rw [cps_append] at hc
    rcases List.mem_append.mp hc with h | h
    · have h' : c = 97 + (first + 3 * k) % 26 := by simpa [sign1] using h
      omega
    · exact h2 c h
theorem alphabet_at : ∀ j : Nat, j < 26 → alphabet.cps.toList[j]? = some (97 + j) := by decide +kernel

/-- all but p that was tracked is as it was -/
def Btp (p : Addr) (H H' : Hp) : Prop := ∀ b o, b ≠ p → H b = some o → H' b = some o
theorem Btp.refl (p : Addr) (H : Hp) : Btp p H H := fun _ _ _ h => h
theorem Btp.trans {p : Addr} {H H1 H2 : Hp} (a : Btp p H H1) (b : Btp p H1 H2) : Btp p H H2 := fun c o n h => b c o n (a c o n h)
theorem Btp.of_same {p : Addr} {H H' : Hp} (s : Same H H') : Btp p H H' := fun b o _ h => s b o h
theorem btp_upd {p : Addr} {H : Hp} {o : HO} : Btp p H (upd H p o) := fun b o n h => by
  rw [upd_ne n]
  exact h
theorem btp_new {p q : Addr} {H : Hp} {o : HO} (h : H q = none) : Btp p H (upd H q o) := Btp.of_same (same_new h)
/-- what was not tracked may be written -/
theorem btp_over {p q : Addr} {H H' : Hp} {o : HO} (h : H q = none) (b : Btp p H H') : Btp p H (upd H' q o) := fun c u n e => by
  rw [upd_ne (ne_of_none e h)]
  exact b c u n e
theorem same_over {q : Addr} {H H' : Hp} {o : HO} (h : H q = none) (b : Same H H') : Same H (upd H' q o) := fun c u e => by
  rw [upd_ne (ne_of_none e h)]
  exact b c u e

theorem scNames : FnScope ["_law_pen_here", "_law_many", "_law_letters", "_law_first", "_law_ending", "_law_k"] ["_law_pen_here", "_law_many"] (defScope sNames) := ⟨rfl, rfl, rfl, by decide +kernel, rfl, by decide +kernel, by decide +kernel⟩
def spNames : Sp := fun vs H Q _ => ∃ (p S : Addr) (at_ left : Int) (ms : List Int), vs = [.ref p, .int 5] ∧ H p = some (P3 S at_ left) ∧ H S = some (.lst (ms.map V.int)) ∧ (0 ≤ at_ ∧ at_ ≤ 900000) ∧ 0 ≤ left ∧
  ∀ (H' : Hp) (L : Addr) (nm : List Str) (at2 left2 : Int), Btp p H H' → H' p = some (P3 S at2 left2) → at_ ≤ at2 → at2 ≤ at_ + 2 → 0 ≤ left2 → H L = none → H' L = some (.lst (nm.map V.str)) → nm.length = 5 → nm.Nodup → (∀ x ∈ nm, Sh x) → Q (.ref L) H'
section
variable {P : Program} {w : World} {K : PySem.W.Frag} {mg : Str → Option Value} {base : Heap}
theorem ok_names {f fT : Addr} {fd fdT : FuncData} {k : Nat} (F : Fun K "_law_names" "_law_names" sNames f fd) (FT : Fun K "_law_take" "_law_take" sTake fT fdT) (GT : FnOk P w K mg base CX0 (k + 1) fT fdT ["_law_pen_here", "_law_many"] spTake)
    (bT : Binds K fdT ["_law_pen_here", "_law_many"] []) (gT : mg "_law_take" = some (.ref fT)) (mr : mg "range" = none) : FnOk P w K mg base CX0 (k + 2) f fd ["_law_pen_here", "_law_many"] spNames := by
  refine F.ok scNames (fun vs H Q E h => ?_) (fun cdv A outer s H vs Q E hr h => ?_)
  · obtain ⟨p, S, a, left, ms, rfl, _⟩ := h
    rfl
  · obtain ⟨p, S, a, left, ms, rfl, hp, hs, ⟨a1, a2⟩, l0, q⟩ := h
    refine ⟨_, pss_cons (ps_set (i := 2) scNames.nd rfl (.inr rfl) pe_str)
      (pss_cons (ps_set (i := 3) scNames.nd rfl (.inr rfl) (pe_call GT hr (by rfl) gT FT.kp bT .nil pass0 (pa_cons (pv 0) (pa_cons pe_int pa_nil))))
      (pss_cons (ps_set (i := 4) scNames.nd rfl (.inr rfl) (pe_ix ix_list (pe_lst (pa_cons pe_str (pa_cons pe_str (pa_cons pe_str (pa_cons pe_str (pa_cons pe_str pa_nil))))))
          (pe_call GT hr (by rfl) gT FT.kp bT .nil pass0 (pa_cons (pv 0) (pa_cons pe_int pa_nil))) (fun _ _ => rfl)))
      (pss_one (ps_ret (pe_lc (own := [("_law_k", 5)]) (g := gName 5) (tt := tYes) rfl scNames.nd (pi_range1 (by rfl) mr (pa_cons (pv 1) pa_nil))
        (blkOk_by (own := [("_law_k", 5)]) (N := ["_law_pen_here", "_law_many", "_law_letters", "_law_first", "_law_ending", "_law_k"]) (sc := defScope sNames) (by decide +kernel))
        (fun _ _ _ _ _ => pg_name (i := 5) scNames.nd rfl (Or.inl rfl)) (fun _ _ _ _ _ => pts_nil)
        (fun _ _ _ _ _ => pe_op op_add_str (pe_ix ix_str (pv 2) (pe_op op_mod (pe_op op_add (pv 3) (pe_op op_mul pe_int (pv 5))) pe_int) (fun _ _ => rfl)) (pv 4))))))), ?_⟩
    have nSp : S ≠ p := p3_ne hp hs
    -- first = take(pen, 26)
    refine ⟨.ref p, rfl, p, S, 26, a, left, ms, rfl, ⟨by decide, by decide⟩, hp, hs, ⟨a1, by omega⟩, l0, fun H1 d1 at1 left1 d10 d11 e1 e2 l1 o1 hp1 => ?_⟩
    have bt1 : Btp p H H1 := fun b o nb h => (o1 b nb).trans h
    have hs1 := bt1 _ _ nSp hs
    -- the endings, then take(pen, 5)
    refine ⟨by show 5 ≤ sizeLine; decide, fun en hen => ?_⟩
    have hp2 := same_new (o := .lst (endings.map V.str)) hen _ _ hp1
    have hs2 := same_new (o := .lst (endings.map V.str)) hen _ _ hs1
    refine ⟨.ref p, rfl, p, S, 5, at1, left1, ms, rfl, ⟨by decide, by decide⟩, hp2, hs2, ⟨by omega, by omega⟩, l1, fun H2 d2 at2 left2 d20 d21 e3 e4 l2 o2 hp3 => ?_⟩
    have nPe : en ≠ p := fun z => by
      rw [z, hp1] at hen
      cases hen
    have hen2 : H2 en = some (.lst (endings.map V.str)) := (o2 en nPe).trans upd_same
    have bt : Btp p H H2 := fun b o nb h => (o2 b nb).trans (same_new hen b o (bt1 b o nb h))
    obtain ⟨j, hj⟩ : ∃ j : Nat, (j : Int) = d2 := ⟨d2.toNat, Int.toNat_of_nonneg d20⟩
    subst hj
    obtain ⟨fN, hf⟩ : ∃ fN : Nat, (fN : Int) = d1 := ⟨d1.toNat, Int.toNat_of_nonneg d10⟩
    subst hf
    have jl : j < endings.length := by show j < 5; omega
    refine ⟨en, endings.map V.str, (j : Int), .str endings[j], rfl, rfl, SqL.of hen2, atI_nat (by rw [List.getElem?_map, List.getElem?_eq_getElem jl]; rfl), ?_⟩
    have hem : endings[j] ∈ endings := List.getElem_mem jl
    generalize endings[j] = e at hem
    -- the names
    refine ⟨.int 5, rfl, 5, rfl, by decide, by decide, fun D hD => ?_⟩
    have hD0 : H D = none := by
      cases z : H D with
      | none => rfl
      | some o =>
        by_cases hDp : D = p
        · rw [hDp, hp3] at hD
          cases hD
        · rw [bt D o hDp z] at hD
          cases hD
    refine lc_it (walk_range (lo := 0) (n := 5)) (fun i H' => Same H2 H' ∧ H' D = some (.lst ((namesK fN e i).map V.str))) ⟨same_new hD, upd_same⟩ (fun _ _ _ _ => trivial) (fun i x H3 H4 hi hpv hy => ?_) (fun H' hpv => ?_)
    · obtain ⟨sm, hl⟩ := hpv
      obtain ⟨rfl, rfl⟩ := hy
      have i5 : i < 5 := hi
      have ix : ((fN : Int) + 3 * (0 + (i : Int))) % 26 = (((fN + 3 * i) % 26 : Nat) : Int) := by omega
      refine ⟨rfl, .str alphabet, rfl, .int (fN : Int), rfl, .int (0 + (i : Int)), rfl, 3, _, rfl, rfl, .inl ⟨by decide, by decide⟩, _, _, rfl, rfl, _, _, rfl, rfl, (by show (0 : Int) < 26; decide), alphabet, (((fN + 3 * i) % 26 : Nat) : Int), 97 + (fN + 3 * i) % 26, rfl, congrArg V.int ix, by decide +kernel,
        atI_nat (alphabet_at _ (Nat.mod_lt _ (by decide))), .str e, rfl, _, _, rfl, rfl, ?_, ?_⟩
      · have h7 := (end_short e hem).1
        show 1 + e.length ≤ sizeLine
        exact Nat.le_of_lt (small1000 (by omega))
      · refine ⟨_, hl, ?_, same_over hD sm, ?_⟩
        · rw [List.length_map]
          unfold namesK
          rw [List.length_map, List.length_range]
          exact small1000 (by omega)
        · rw [upd_same]
          unfold namesK
          rw [List.range_succ, List.map_append, List.map_append]
          rfl
    · obtain ⟨sm, hl⟩ := hpv
      refine q H' D (namesK fN e 5) at2 left2 (bt.trans (Btp.of_same sm)) (sm _ _ hp3) (by omega) (by omega) l2 hD0 hl ?_ (namesK_nodup fN e) (fun x hx => ?_)
      · unfold namesK
        rw [List.length_map, List.length_range]
      · obtain ⟨k', _, rfl⟩ := List.mem_map.mp hx
        exact nameK_short hem k'
end
end K19

namespace K19
open PySem PySem.Spec PyProof.Rows L2
/-! ### data of tuples stay where only lists and dicts are written -/
mutual
def tupy : PyData → Bool
  | .none => true
  | .bool _ => true
  | .int _ => true
  | .str _ => true
  | .tuple ds => tupyAll ds
  | .list _ => false
  | .dict _ => false
def tupyAll : List PyData → Bool
  | [] => true
  | d :: ds => tupy d && tupyAll ds
end
/-- tuples stay -/
def TK (H H' : Hp) : Prop := ∀ b, (∀ xs, H b = some (.tup xs) → H' b = some (.tup xs)) ∧ ∀ o xs, H b = some (.frz o (.tup xs)) → H' b = some (.frz o (.tup xs))
theorem TK.trans {H H1 H2 : Hp} (a : TK H H1) (b : TK H1 H2) : TK H H2 := fun c => ⟨fun xs h => (b c).1 xs ((a c).1 xs h), fun o u h => (b c).2 o u ((a c).2 o u h)⟩
theorem TK.of_same {H H' : Hp} (s : Same H H') : TK H H' := fun c => ⟨fun xs h => s c _ h, fun o u h => s c _ h⟩
theorem TK.of_btp {p : Addr} {H H' : Hp} {xs : List V} (b : Btp p H H') (h : H p = some (.lst xs)) : TK H H' := fun c => by
  have n : ∀ u, H c = some u → (∀ ys, u ≠ .lst ys) → c ≠ p := fun u hu hn z => by
    rw [z, h] at hu
    exact hn xs (Option.some.inj hu).symm
  exact ⟨fun ys hy => b c _ (n _ hy fun _ => nofun) hy, fun o u hy => b c _ (n _ hy fun _ => nofun) hy⟩
theorem TK.dict {p : Addr} {H H' : Hp} {xs : List (Key × V)} (b : Btp p H H') (h : H p = some (.dK xs)) : TK H H' := fun c => by
  have n : ∀ u, H c = some u → (∀ ys, u ≠ .dK ys) → c ≠ p := fun u hu hn z => by
    rw [z, h] at hu
    exact hn xs (Option.some.inj hu).symm
  exact ⟨fun ys hy => b c _ (n _ hy fun _ => nofun) hy, fun o u hy => b c _ (n _ hy fun _ => nofun) hy⟩
section
variable {K : PySem.W.Frag} {H H' : Hp}
theorem tk_tup {a : Addr} {xs : List V} (e : TK H H') (h : SqT K H a xs) : SqT K H' a xs := by
  rcases h with (h | ⟨o, h⟩) | h
  · exact Or.inl (Or.inl ((e a).1 _ h))
  · exact Or.inl (Or.inr ⟨o, (e a).2 _ _ h⟩)
  · exact Or.inr h
mutual
theorem tk_dp (e : TK H H') : ∀ (d : PyData) (v : V), tupy d = true → Dp K H v d → Dp K H' v d
  | .none, _, _, h => by cases h; exact .non
  | .bool b, _, _, h => by cases h; exact .bl b
  | .int i, _, _, h => by cases h; exact .int i
  | .str x, _, _, h => by cases h; exact .str x
  | .list ds, _, t, h => by simp [tupy] at t
  | .tuple ds, _, t, h => by
    cases h with
    | tup hs ha => exact .tup (tk_tup e hs) (tk_dpAll e ds _ (by simpa [tupy] using t) ha)
  | .dict _, _, t, h => by cases h
theorem tk_dpAll (e : TK H H') : ∀ (ds : List PyData) (vs : List V), tupyAll ds = true → DpAll K H vs ds → DpAll K H' vs ds
  | [], _, _, h => by cases h; exact .nil
  | d :: ds, _, t, h => by
    have t' : tupy d = true ∧ tupyAll ds = true := by simpa [tupyAll] using t
    cases h with
    | cons h1 h2 => exact .cons (tk_dp e d _ t'.1 h1) (tk_dpAll e ds _ t'.2 h2)
end
end
theorem tupyAll_map {β : Type} {f : β → PyData} : ∀ (l : List β), (∀ x ∈ l, tupy (f x) = true) → tupyAll (l.map f) = true
  | [], _ => rfl
  | x :: r, h => by
    show (tupy (f x) && tupyAll (r.map f)) = true
    rw [h x List.mem_cons_self, tupyAll_map r fun y hy => h y (List.mem_cons_of_mem _ hy)]
    rfl
theorem tupy_pair (p : Pr Str) : tupy (pairD p) = true := rfl
theorem tupy_pairs (l : List (Pr Str)) : tupyAll (l.map pairD) = true := tupyAll_map l fun p _ => tupy_pair p
theorem tupy_src (s : Sr) : tupy (srcD s) = true := by
  show (true && (true && (true && (tupyAll (s.pairs.map pairD) && true)))) = true
  rw [tupy_pairs]
  rfl
theorem tupy_srcs (S : List Sr) : tupyAll (S.map srcD) = true := tupyAll_map S fun s _ => tupy_src s

/-! ### what the law's asks are like -/
def ShP (p : Pr Str) : Prop := Sh p.own ∧ Sh p.als ∧ Sh p.col
structure ShS (s : Sr) : Prop where
  way : Sh s.way
  name : Sh s.name
  table : Sh s.table
  many : s.pairs.length ≤ 2
  pairs : ∀ p ∈ s.pairs, ShP p
/-- the sources so far -/
structure MadeK (nm : List Str) (k : Nat) (S : List Sr) : Prop where
  len : S.length = k
  first : 0 < k → S[0]?.map Src.way = some wW
  names : S.map Src.name = nm.take k
  als : ∀ s ∈ S, ∀ p ∈ s.pairs, p.als ∈ nm.take k
  sh : ∀ s ∈ S, ShS s
theorem MadeK.nil (nm : List Str) : MadeK nm 0 [] := ⟨rfl, fun h => absurd h (Nat.lt_irrefl _), rfl, (fun _ h => nomatch h), (fun _ h => nomatch h)⟩
theorem MadeK.snoc {nm : List Str} {k : Nat} {S : List Sr} (m : MadeK nm k S) {s : Sr} (hk : k < nm.length) (hn : s.name = nm[k]) (hw : k = 0 → s.way = wW) (ha : ∀ p ∈ s.pairs, p.als ∈ nm.take k) (hs : ShS s) : MadeK nm (k + 1) (S ++ [s]) := by
  have ht : nm.take (k + 1) = nm.take k ++ [nm[k]] := by
    rw [List.take_add_one, List.getElem?_eq_getElem hk]
    rfl
  refine ⟨by rw [List.length_append, m.len]; rfl, fun _ => ?_, ?_, fun t h p hp => ?_, fun t h => ?_⟩
  · by_cases k0 : k = 0
    · have e : S = [] := List.length_eq_zero_iff.mp (m.len.trans k0)
      subst e
      show some s.way = some wW
      rw [hw k0]
    · have e := m.first (Nat.pos_of_ne_zero k0)
      rw [List.getElem?_append_left (by rw [m.len]; exact Nat.pos_of_ne_zero k0)]
      exact e
  · rw [List.map_append, m.names, ht, ← hn]
    rfl
  · rw [ht]
    rcases List.mem_append.mp h with h | h
    · exact List.mem_append_left _ (m.als t h p hp)
    · rw [List.mem_singleton.mp h] at hp
      exact List.mem_append_left _ (ha p hp)
  · rcases List.mem_append.mp h with h | h
    · exact m.sh t h
    · rw [List.mem_singleton.mp h]
      exact hs

/-- the heap at a turn of the sources' loop -/
structure Hd (K : PySem.W.Frag) (H0 H : Hp) (p S L TB FO : Addr) (nm tb : List Str) (ms : List Int) (at_ left : Int) (vs : List V) (srcs : List Sr) : Prop where
  bt : Btp p H0 H
  pen : H p = some (P3 S at_ left)
  cells : H S = some (.lst (ms.map V.int))
  nms : H L = some (.lst (nm.map V.str))
  tbs : H TB = some (.lst (tb.map V.str))
  fnd : H FO = some (.lst vs)
  dat : DpAll K H vs (srcs.map srcD)
  nS : S ≠ p
  nL : L ≠ p
  nT : TB ≠ p
  nF : FO ≠ p
section
variable {K : PySem.W.Frag} {H0 H H' : Hp} {p S L TB FO : Addr} {nm tb : List Str} {ms : List Int} {at_ left at2 left2 : Int} {vs : List V} {srcs : List Sr}
theorem btp_eq (o : ∀ b, b ≠ p → H' b = H b) : Btp p H H' := fun b _ nb h => (o b nb).trans h
theorem Hd.tk (h : Hd K H0 H p S L TB FO nm tb ms at_ left vs srcs) (o : ∀ b, b ≠ p → H' b = H b) : TK H H' := TK.of_btp (btp_eq o) h.pen
theorem Hd.take (h : Hd K H0 H p S L TB FO nm tb ms at_ left vs srcs) (o : ∀ b, b ≠ p → H' b = H b) (e : H' p = some (P3 S at2 left2)) : Hd K H0 H' p S L TB FO nm tb ms at2 left2 vs srcs :=
  ⟨h.bt.trans (btp_eq o), e, (o _ h.nS).trans h.cells, (o _ h.nL).trans h.nms, (o _ h.nT).trans h.tbs, (o _ h.nF).trans h.fnd, tk_dpAll (h.tk o) _ _ (tupy_srcs srcs) h.dat, h.nS, h.nL, h.nT, h.nF⟩
theorem Hd.new {q : Addr} {o : HO} (h : Hd K H0 H p S L TB FO nm tb ms at_ left vs srcs) (hq : H q = none) : Hd K H0 (upd H q o) p S L TB FO nm tb ms at_ left vs srcs :=
  ⟨h.bt.trans (btp_new hq), same_new hq _ _ h.pen, same_new hq _ _ h.cells, same_new hq _ _ h.nms, same_new hq _ _ h.tbs, same_new hq _ _ h.fnd, same_dpAll (same_new hq) _ _ h.dat, h.nS, h.nL, h.nT, h.nF⟩
/-- a list of our own is written -/
theorem Hd.over {q : Addr} {us us' : List V} (h : Hd K H0 H p S L TB FO nm tb ms at_ left vs srcs) (h0 : H0 q = none) (hq : H q = some (.lst us)) (n0 : q ≠ p) (n1 : q ≠ S) (n2 : q ≠ L) (n3 : q ≠ TB) (n4 : q ≠ FO) : Hd K H0 (upd H q (.lst us')) p S L TB FO nm tb ms at_ left vs srcs :=
  ⟨btp_over h0 h.bt, by rw [upd_ne n0.symm]; exact h.pen, by rw [upd_ne n1.symm]; exact h.cells, by rw [upd_ne n2.symm]; exact h.nms, by rw [upd_ne n3.symm]; exact h.tbs, by rw [upd_ne n4.symm]; exact h.fnd, tk_dpAll (TK.of_btp (btp_upd (p := q)) hq) _ _ (tupy_srcs srcs) h.dat, h.nS, h.nL, h.nT, h.nF⟩
/-- an address that was not tracked is no pen -/
theorem Hd.ne (h : Hd K H0 H p S L TB FO nm tb ms at_ left vs srcs) {q : Addr} (hq : H q = none) : q ≠ p := fun z => by
  rw [z, h.pen] at hq
  cases hq
theorem Hd.free (h : Hd K H0 H p S L TB FO nm tb ms at_ left vs srcs) {q : Addr} (hq : H q = none) : H0 q = none := by
  cases z : H0 q with
  | none => rfl
  | some o =>
    rw [h.bt q o (h.ne hq) z] at hq
    cases hq
end
theorem at_str {nm : List Str} {j : Nat} (h : j < nm.length) : atI (nm.map V.str) (j : Int) = some (.str nm[j]) := atI_nat (by rw [List.getElem?_map, List.getElem?_eq_getElem h]; rfl)
theorem nat_of {d : Int} (h : 0 ≤ d) : ∃ j : Nat, d = (j : Int) := ⟨d.toNat, (Int.toNat_of_nonneg h).symm⟩
end K19

namespace K19
open PySem PySem.Spec PyProof.Rows L2
abbrev nSources : List Str := ["_law_pen_here", "_law_names_here", "_law_many", "_law_tables", "_law_found", "_law_k", "_law_pairs", "_law_turn", "_law_ends", "_law_way"]
theorem scSources : FnScope nSources ["_law_pen_here", "_law_names_here"] (defScope sSources) := ⟨rfl, rfl, rfl, by decide +kernel, rfl, by decide +kernel, by decide +kernel⟩
/-- the sources: tuples, some joined ones first -/
def spSources (K : PySem.W.Frag) : Sp := fun vs H Q _ => ∃ (p S L : Addr) (at_ left : Int) (ms : List Int) (nm : List Str), vs = [.ref p, .ref L] ∧ H p = some (P3 S at_ left) ∧ H S = some (.lst (ms.map V.int)) ∧ (0 ≤ at_ ∧ at_ ≤ 900000) ∧ 0 ≤ left ∧
  H L = some (.lst (nm.map V.str)) ∧ nm.length = 5 ∧ (∀ x ∈ nm, Sh x) ∧
  ∀ (H' : Hp) (T : Addr) (srcs : List Sr) (n : Nat) (at2 left2 : Int), Btp p H H' → H' p = some (P3 S at2 left2) → at_ ≤ at2 → at2 ≤ at_ + 100 → 0 ≤ left2 → Dp K H' (.ref T) (.tuple (srcs.map srcD)) → 0 < n → n ≤ 5 → MadeK nm n srcs → Q (.ref T) H'
/-- the pairs so far of a source that stands behind k -/
structure PrK (K : PySem.W.Frag) (H : Hp) (PR : Addr) (nm : List Str) (k t : Nat) (us : List V) (prs : List (Pr Str)) : Prop where
  at_ : H PR = some (.lst us)
  dat : DpAll K H us (prs.map pairD)
  len : prs.length = t
  sh : ∀ q ∈ prs, ShP q ∧ q.als ∈ nm.take k
section
variable {P : Program} {w : World} {K : PySem.W.Frag} {mg : Str → Option Value} {base : Heap}
abbrev cxSources (P : Program) (w : World) (K : PySem.W.Frag) (mg : Str → Option Value) (base : Heap) (f : Addr) (cdv : Value) (A : Around) (outer : List Env) (s : Shared) (H : Hp) (E : XK) : Cx :=
  (cxOf CX0 P w K mg base nSources "_law_sources" (defScope sSources) f cdv A outer s H E).nox
/-- the body of the inner loop: the first statement of the second statement of the outer loop's body -/
def loopBody (s : Stmt) : List Stmt := match s with
  | .For _ _ b _ _ => b
  | _ => []
abbrev outBody : List Stmt := loopBody ((defBody sSources).getD 3 (.Pass ⟨0, 0, 0, 0⟩))
abbrev inBody : List Stmt := loopBody (outBody.getD 1 (.Pass ⟨0, 0, 0, 0⟩))
/-- what a turn of the inner loop needs and does -/
def tIn (K : PySem.W.Frag) (H0 : Hp) (p S L TB FO PR : Addr) (nm tb : List Str) (ms : List Int) (vs : List V) (srcs : List Sr) (many k : Nat) : TS := fun D σ H => ∃ (at_ left : Int) (t : Nat) (us : List V) (prs : List (Pr Str)) (x7 x8 x9 : Option V),
  σ = [some (.ref p), some (.ref L), some (.int (many : Int)), some (.ref TB), some (.ref FO), some (.int (0 + (k : Int))), some (.ref PR), x7, x8, x9] ∧ Hd K H0 H p S L TB FO nm tb ms at_ left vs srcs ∧ PrK K H PR nm k t us prs ∧ (0 < k ∧ k < 5 ∧ 1 ≤ many ∧ many ≤ 3 ∧ nm.length = 5 ∧ t ≤ 10) ∧ (∀ x ∈ nm, Sh x) ∧
  (0 ≤ at_ ∧ at_ ≤ 990000) ∧ 0 ≤ left ∧ PR ≠ p ∧ H0 PR = none ∧ PR ≠ S ∧ PR ≠ L ∧ PR ≠ TB ∧ PR ≠ FO ∧
  ∀ (H' : Hp) (at2 left2 : Int) (us' : List V) (prs' : List (Pr Str)) (x8 : Option V), at_ ≤ at2 → at2 ≤ at_ + 3 → 0 ≤ left2 → Hd K H0 H' p S L TB FO nm tb ms at2 left2 vs srcs → PrK K H' PR nm k (t + 1) us' prs' →
    D.nx [some (.ref p), some (.ref L), some (.int (many : Int)), some (.ref TB), some (.ref FO), some (.int (0 + (k : Int))), some (.ref PR), x7, x8, x9] H'
theorem ok_in (f fT : Addr) (fdT : FuncData) (kk : Nat) (cdv : Value) (A : Around) (outer : List Env) (s : Shared) (Hx : Hp) (E : XK) (hr : Room (kk + 1) (A.deeper (envOfC "_law_sources" (defScope sSources) s.heap.objs.size f cdv)))
    (FT : Fun K "_law_take" "_law_take" sTake fT fdT) (GT : FnOk P w K mg base CX0 (kk + 1) fT fdT ["_law_pen_here", "_law_many"] spTake) (bT : Binds K fdT ["_law_pen_here", "_law_many"] []) (gT : mg "_law_take" = some (.ref fT)) (mm : mg "min" = none)
    (H0 : Hp) (p S L TB FO PR : Addr) (nm tb : List Str) (ms : List Int) (vs : List V) (srcs : List Sr) (many k : Nat) : PSs (cxSources P w K mg base f cdv A outer s Hx E) inBody (tIn K H0 p S L TB FO PR nm tb ms vs srcs many k) := by
  refine pss_weak (pss_cons (ps_set (i := 8) scSources.nd rfl (.inl rfl) (pe_tup (pa_cons (pe_ix ix_list (pv 1) (pe_call GT hr (by rfl) gT FT.kp bT .nil pass0 (pa_cons (pv 0) (pa_cons pe_int pa_nil))) (fun _ _ => rfl))
      (pa_cons (pe_ix ix_list (pv 1) (pe_call GT hr (by rfl) gT FT.kp bT .nil pass0 (pa_cons (pv 0) (pa_cons (pe_callB (call_min2 rfl) (by rfl) mm (by decide +kernel) (pa_cons (pv 5) (pa_cons (pv 2) pa_nil))) pa_nil))) (fun _ _ => rfl))
      (pa_cons (pe_ix ix_list (pv 1) (pe_call GT hr (by rfl) gT FT.kp bT .nil pass0 (pa_cons (pv 0) (pa_cons pe_int pa_nil))) (fun _ _ => rfl)) pa_nil)))))
    (pss_one (ps_expr (pe_bm PySem.F.plainAttrs_list PySem.F.slot_list_append PySem.F.type_list_append mt_append (pv 6) (pa_cons (pv 8) pa_nil))))) fun D σ H h => ?_
  obtain ⟨at_, left, t, us, prs, x7, x8, x9, rfl, hd, pr, ⟨k0, k5, m1, m3, l5, t10⟩, shn, ⟨a0, a1⟩, l0, nPR, fPR, n1, n2, n3, n4, q⟩ := h
  have keepPr : ∀ {H1 H2 : Hp} {t : Nat} {us : List V} {prs : List (Pr Str)}, TK H1 H2 → H2 PR = H1 PR → PrK K H1 PR nm k t us prs → PrK K H2 PR nm k t us prs := fun {H1 H2 t us prs} tk e r => ⟨e.trans r.at_, tk_dpAll tk _ _ (tupy_pairs prs) r.dat, r.len, r.sh⟩
  -- the three texts
  refine ⟨.ref L, rfl, .ref p, rfl, p, S, 3, at_, left, ms, rfl, ⟨by decide, by decide⟩, hd.pen, hd.cells, ⟨a0, by omega⟩, l0, fun H1 d1 at1 left1 d10 d11 e1 e2 l1 o1 hp1 => ?_⟩
  obtain ⟨j1, rfl⟩ := nat_of d10
  have hd1 := hd.take o1 hp1
  have pr1 := keepPr (hd.tk o1) (o1 _ nPR) pr
  have j1l : j1 < nm.length := by omega
  refine ⟨L, nm.map V.str, _, _, rfl, rfl, SqL.of hd1.nms, at_str j1l, ?_⟩
  obtain ⟨mk, hmk, mk1, mk2, mk3⟩ : ∃ mk : Nat, (if (many : Int) < 0 + (k : Int) then (many : Int) else 0 + (k : Int)) = (mk : Int) ∧ 1 ≤ mk ∧ mk ≤ k ∧ mk ≤ 3 := by
    by_cases c : (many : Int) < 0 + (k : Int)
    · exact ⟨many, if_pos c, m1, by omega, m3⟩
    · exact ⟨k, by rw [if_neg c]; omega, by omega, by omega, by omega⟩
  refine ⟨.ref L, rfl, .ref p, rfl, .int (0 + (k : Int)), rfl, .int (many : Int), rfl, 0 + (k : Int), (many : Int), rfl, p, S, (mk : Int), at1, left1, ms, by rw [hmk]; rfl, ⟨by omega, by omega⟩, hd1.pen, hd1.cells, ⟨by omega, by omega⟩, l1, fun H2 d2 at2 left2 d20 d21 e3 e4 l2 o2 hp2 => ?_⟩
  obtain ⟨j2, rfl⟩ := nat_of d20
  have hd2 := hd1.take o2 hp2
  have pr2 := keepPr (hd1.tk o2) (o2 _ nPR) pr1
  have j2l : j2 < nm.length := by omega
  refine ⟨L, nm.map V.str, _, _, rfl, rfl, SqL.of hd2.nms, at_str j2l, ?_⟩
  refine ⟨.ref L, rfl, .ref p, rfl, p, S, 3, at2, left2, ms, rfl, ⟨by decide, by decide⟩, hd2.pen, hd2.cells, ⟨by omega, by omega⟩, l2, fun H3 d3 at3 left3 d30 d31 e5 e6 l3 o3 hp3 => ?_⟩
  obtain ⟨j3, rfl⟩ := nat_of d30
  have hd3 := hd2.take o3 hp3
  have pr3 := keepPr (hd2.tk o3) (o3 _ nPR) pr2
  have j3l : j3 < nm.length := by omega
  refine ⟨L, nm.map V.str, _, _, rfl, rfl, SqL.of hd3.nms, at_str j3l, by show 3 ≤ sizeLine; decide, fun T hT => ?_⟩
  have hd4 := hd3.new (o := .tup [.str nm[j1], .str nm[j2], .str nm[j3]]) hT
  have nPT : PR ≠ T := ne_of_none pr3.at_ hT
  have pr4 : PrK K (upd H3 T (.tup [.str nm[j1], .str nm[j2], .str nm[j3]])) PR nm k t us prs := keepPr (TK.of_same (same_new hT)) (upd_ne nPT) pr3
  -- pairs.append(ends)
  have pl : us.length = t := by rw [dpAll_len pr4.dat, List.length_map, pr4.len]
  refine ⟨.ref PR, rfl, .inl ⟨rfl, _, SqL.of pr4.at_⟩, .ref T, rfl, PR, us, .ref T, rfl, rfl, pr4.at_, ?_, ?_⟩
  · rw [pl]
    exact small1000 (by omega)
  · have hTT : (upd (upd H3 T (.tup [.str nm[j1], .str nm[j2], .str nm[j3]])) PR (.lst (us ++ [.ref T]))) T = some (.tup [.str nm[j1], .str nm[j2], .str nm[j3]]) := by
      rw [upd_ne nPT.symm, upd_same]
    have dT : Dp K (upd (upd H3 T (.tup [.str nm[j1], .str nm[j2], .str nm[j3]])) PR (.lst (us ++ [.ref T]))) (.ref T) (pairD ⟨nm[j1], nm[j2], nm[j3]⟩) := dp_new hTT (.cons (.str _) (.cons (.str _) (.cons (.str _) .nil)))
    have tkP : TK (upd H3 T (.tup [.str nm[j1], .str nm[j2], .str nm[j3]])) (upd (upd H3 T (.tup [.str nm[j1], .str nm[j2], .str nm[j3]])) PR (.lst (us ++ [.ref T]))) := TK.of_btp btp_upd pr4.at_
    refine q _ at3 left3 (us ++ [.ref T]) (prs ++ [⟨nm[j1], nm[j2], nm[j3]⟩]) _ (by omega) (by omega) l3 (hd4.over fPR pr4.at_ nPR n1 n2 n3 n4) ⟨upd_same, ?_, by rw [List.length_append, pr4.len]; rfl, fun z hz => ?_⟩
    · rw [List.map_append]
      exact dpAll_append (tk_dpAll tkP _ _ (tupy_pairs prs) pr4.dat) (.cons dT .nil)
    · rcases List.mem_append.mp hz with hz | hz
      · exact pr4.sh z hz
      · rw [List.mem_singleton.mp hz]
        refine ⟨⟨shn _ (List.getElem_mem j1l), shn _ (List.getElem_mem j2l), shn _ (List.getElem_mem j3l)⟩, ?_⟩
        exact List.mem_take_iff_getElem.mpr ⟨j2, by omega, rfl⟩
def tInE (K : PySem.W.Frag) (H0 : Hp) (p S L TB FO : Addr) (nm tb : List Str) (ms : List Int) (many k : Nat) : TS := fun D σ H => ∃ (PR : Addr) (vs : List V) (srcs : List Sr), tIn K H0 p S L TB FO PR nm tb ms vs srcs many k D σ H
/-- what a turn of the outer loop needs and does -/
def tOut (K : PySem.W.Frag) (H0 : Hp) (p S L TB FO : Addr) (nm tb : List Str) (ms : List Int) (many k : Nat) : TS := fun D σ H => ∃ (at_ left : Int) (vs : List V) (srcs : List Sr) (x6 x7 x8 x9 : Option V),
  σ = [some (.ref p), some (.ref L), some (.int (many : Int)), some (.ref TB), some (.ref FO), some (.int (0 + (k : Int))), x6, x7, x8, x9] ∧ Hd K H0 H p S L TB FO nm tb ms at_ left vs srcs ∧ MadeK nm k srcs ∧ (k < 5 ∧ 1 ≤ many ∧ many ≤ 3 ∧ nm.length = 5 ∧ 1 ≤ tb.length ∧ tb.length ≤ 5) ∧ (∀ x ∈ nm, Sh x) ∧ (∀ x ∈ tb, Sh x) ∧
  (0 ≤ at_ ∧ at_ ≤ 980000) ∧ 0 ≤ left ∧ H0 FO = none ∧ FO ≠ S ∧ FO ≠ L ∧ FO ≠ TB ∧
  ∀ (H' : Hp) (at2 left2 : Int) (vs' : List V) (srcs' : List Sr) (y6 y7 y8 y9 : Option V), at_ ≤ at2 → at2 ≤ at_ + 19 → 0 ≤ left2 → Hd K H0 H' p S L TB FO nm tb ms at2 left2 vs' srcs' → MadeK nm (k + 1) srcs' →
    D.nx [some (.ref p), some (.ref L), some (.int (many : Int)), some (.ref TB), some (.ref FO), some (.int (0 + (k : Int))), y6, y7, y8, y9] H'
theorem four_at (j : Nat) (h : j < 4) : ∃ nv : Int, atI [V.int 0, V.int 1, V.int 1, V.int 2] (j : Int) = some (.int nv) ∧ 0 ≤ nv ∧ nv ≤ 2 := by
  match j, h with
  | 0, _ => exact ⟨0, rfl, by decide, by decide⟩
  | 1, _ => exact ⟨1, rfl, by decide, by decide⟩
  | 2, _ => exact ⟨1, rfl, by decide, by decide⟩
  | 3, _ => exact ⟨2, rfl, by decide, by decide⟩
theorem two_at (j : Nat) (h : j < 2) : ∃ o : Str, atI [V.str "perhaps", V.str "none"] (j : Int) = some (.str o) ∧ Sh o ∧ o ≠ wW := by
  match j, h with
  | 0, _ => exact ⟨"perhaps", rfl, ⟨by decide +kernel, by decide +kernel⟩, by decide +kernel⟩
  | 1, _ => exact ⟨"none", rfl, ⟨by decide +kernel, by decide +kernel⟩, by decide +kernel⟩
theorem sh_with : Sh wW := ⟨by decide +kernel, by decide +kernel⟩
theorem turns_of {nv : Int} {k : Nat} (h0 : 0 ≤ nv) (h2 : nv ≤ 2) : ∃ tn : Nat, nv * (if decide ((0 : Int) < 0 + (k : Int)) = true then (1 : Int) else 0) = (tn : Int) ∧ tn ≤ 2 ∧ (0 < tn → 0 < k) := by
  by_cases c : (0 : Int) < 0 + (k : Int)
  · refine ⟨nv.toNat, ?_, by omega, fun _ => by omega⟩
    rw [if_pos (decide_eq_true c), Int.mul_one]
    omega
  · refine ⟨0, ?_, by omega, fun h => absurd h (by omega)⟩
    rw [if_neg (by simpa using c), Int.mul_zero]
    rfl
theorem way_of {o : Str} {k many : Nat} (ho : Sh o) (hm : 1 ≤ many) : ∃ wy : Str, atI [V.str wW, V.str o] (if decide ((many : Int) ≤ 0 + (k : Int)) = true then (1 : Int) else 0) = some (.str wy) ∧ Sh wy ∧ (k = 0 → wy = wW) := by
  by_cases c : (many : Int) ≤ 0 + (k : Int)
  · exact ⟨o, by rw [if_pos (decide_eq_true c)]; rfl, ho, fun h => by omega⟩
  · exact ⟨wW, by rw [if_neg (by simpa using c)]; rfl, sh_with, fun _ => rfl⟩
theorem ok_out (f fT : Addr) (fdT : FuncData) (kk : Nat) (cdv : Value) (A : Around) (outer : List Env) (s : Shared) (Hx : Hp) (E : XK) (hr : Room (kk + 1) (A.deeper (envOfC "_law_sources" (defScope sSources) s.heap.objs.size f cdv)))
    (FT : Fun K "_law_take" "_law_take" sTake fT fdT) (GT : FnOk P w K mg base CX0 (kk + 1) fT fdT ["_law_pen_here", "_law_many"] spTake) (bT : Binds K fdT ["_law_pen_here", "_law_many"] []) (gT : mg "_law_take" = some (.ref fT)) (mm : mg "min" = none) (mr : mg "range" = none) (mi : mg "int" = none) (ml : mg "len" = none) (mt : mg "tuple" = none)
    (H0 : Hp) (p S L TB FO : Addr) (nm tb : List Str) (ms : List Int) (many k : Nat) : PSs (cxSources P w K mg base f cdv A outer s Hx E) outBody (tOut K H0 p S L TB FO nm tb ms many k) := by
  refine ⟨fun pins s1 σ H D I h => ?_⟩
  refine PSs.run (t := _) (pss_cons (ps_set (i := 6) scSources.nd rfl (.inl rfl) (pe_lst pa_nil))
    (pss_cons (ps_for PassesOwn.never rfl (pi_range1 (by rfl) mr (pa_cons (pe_op op_mul (pe_ix ix_list (pe_lst (pa_cons pe_int (pa_cons pe_int (pa_cons pe_int (pa_cons pe_int pa_nil)))))
          (pe_call GT hr (by rfl) gT FT.kp bT .nil pass0 (pa_cons (pv 0) (pa_cons pe_int pa_nil))) (fun _ _ => rfl)) (pe_callTy call_int1 (by rfl) mi (by decide +kernel) (pa_cons (pe_cmpR op_gt (pv 5) pe_int (nomark _)) pa_nil))) pa_nil))
        (pg_name (i := 7) scSources.nd rfl (Or.inl rfl)) (PSs.mk (t := tInE K H0 p S L TB FO nm tb ms many k) fun pins s2 σ2 H2 D2 I2 ⟨PR, vs, srcs, h2⟩ => (ok_in f fT fdT kk cdv A outer s Hx E hr FT GT bT gT mm H0 p S L TB FO PR nm tb ms vs srcs many k).run pins s2 σ2 H2 D2 I2 h2))
    (pss_cons (ps_set (i := 9) scSources.nd rfl (.inl rfl) (pe_ix ix_list (pe_lst (pa_cons pe_str (pa_cons (pe_ix ix_list (pe_lst (pa_cons pe_str (pa_cons pe_str pa_nil))) (pe_call GT hr (by rfl) gT FT.kp bT .nil pass0 (pa_cons (pv 0) (pa_cons pe_int pa_nil))) (fun _ _ => rfl)) pa_nil)))
        (pe_callTy call_int1 (by rfl) mi (by decide +kernel) (pa_cons (pe_cmpR op_ge (pv 5) (pv 2) (nomark _)) pa_nil)) (fun _ _ => rfl)))
    (pss_one (ps_expr (pe_bm PySem.F.plainAttrs_list PySem.F.slot_list_append PySem.F.type_list_append mt_append (pv 4) (pa_cons (pe_tup (pa_cons (pv 9) (pa_cons (pe_ix ix_list (pv 1) (pv 5) (fun _ _ => rfl))
        (pa_cons (pe_ix ix_list (pv 3) (pe_call GT hr (by rfl) gT FT.kp bT .nil pass0 (pa_cons (pv 0) (pa_cons (pe_callB call_len_seq (by rfl) ml PySem.boot_len (pa_cons (pv 3) pa_nil)) pa_nil))) (fun _ _ => rfl))
        (pa_cons (pe_callTy call_tuple_of (by rfl) mt (by decide +kernel) (pa_cons (pv 6) pa_nil)) pa_nil))))) pa_nil))))))) pins s1 σ H D I ?_
  obtain ⟨at_, left, vs, srcs, x6, x7, x8, x9, rfl, hd, made, ⟨k5, m1, m3, l5, t1, t5⟩, shn, sht, ⟨a0, a1⟩, l0, fFO, nFS, nFL, nFT, q⟩ := h
  -- pairs = []
  refine ⟨Nat.zero_le _, fun PR hPR => ?_⟩
  have fPR := hd.free hPR
  have nPp := hd.ne hPR
  have nPS : PR ≠ S := (ne_of_none hd.cells hPR).symm
  have nPL : PR ≠ L := (ne_of_none hd.nms hPR).symm
  have nPT : PR ≠ TB := (ne_of_none hd.tbs hPR).symm
  have nPF : PR ≠ FO := (ne_of_none hd.fnd hPR).symm
  have hd1 := hd.new (o := .lst []) hPR
  have pr1 : PrK K (upd H PR (.lst [])) PR nm k 0 [] [] := ⟨upd_same, .nil, rfl, fun _ h => nomatch h⟩
  -- [0, 1, 1, 2][take(pen, 4)]
  refine ⟨by show 4 ≤ sizeLine; decide, fun F4 hF4 => ?_⟩
  have hd2 := hd1.new (o := .lst [.int 0, .int 1, .int 1, .int 2]) hF4
  have keepPr : ∀ {H1 H2 : Hp} {t : Nat} {us : List V} {prs : List (Pr Str)}, TK H1 H2 → H2 PR = H1 PR → PrK K H1 PR nm k t us prs → PrK K H2 PR nm k t us prs := fun {H1 H2 t us prs} tk e r => ⟨e.trans r.at_, tk_dpAll tk _ _ (tupy_pairs prs) r.dat, r.len, r.sh⟩
  have pr2 := keepPr (TK.of_same (same_new (o := .lst [.int 0, .int 1, .int 1, .int 2]) hF4)) (upd_ne (ne_of_none pr1.at_ hF4)) pr1
  have nF4p : F4 ≠ p := hd1.ne hF4
  refine ⟨.ref p, rfl, p, S, 4, at_, left, ms, rfl, ⟨by decide, by decide⟩, hd2.pen, hd2.cells, ⟨a0, by omega⟩, l0, fun H3 d1 at1 left1 d10 d11 e1 e2 l1 o1 hp1 => ?_⟩
  obtain ⟨j1, rfl⟩ := nat_of d10
  have hd3 := hd2.take o1 hp1
  have pr3 := keepPr (hd2.tk o1) (o1 _ nPp) pr2
  obtain ⟨nv, hnv, nv0, nv2⟩ := four_at j1 (by omega)
  have hF43 : H3 F4 = some (.lst [.int 0, .int 1, .int 1, .int 2]) := (o1 _ nF4p).trans upd_same
  obtain ⟨tn, htn, tn2, tnk⟩ := turns_of (k := k) nv0 nv2
  refine ⟨F4, _, _, .int nv, rfl, rfl, SqL.of hF43, hnv, .int (0 + (k : Int)), rfl, 0 + (k : Int), 0, rfl, rfl, .inr ⟨_, rfl, nv, _, rfl, rfl, .inl ⟨by omega, by omega⟩, ?_⟩⟩
  refine ⟨(tn : Int), congrArg (fun z => [V.int z]) htn, by omega, by omega, ?_⟩
  refine for_range (lo := 0) (n := tn) (fun t σ H => ∃ (at_' left' : Int) (us : List V) (prs : List (Pr Str)) (x7 x8 : Option V), σ = [some (.ref p), some (.ref L), some (.int (many : Int)), some (.ref TB), some (.ref FO), some (.int (0 + (k : Int))), some (.ref PR), x7, x8, x9] ∧
      Hd K H0 H p S L TB FO nm tb ms at_' left' vs srcs ∧ PrK K H PR nm k t us prs ∧ at_ ≤ at_' ∧ at_' ≤ at_ + 1 + 3 * (t : Int) ∧ 0 ≤ left')
    ⟨at1, left1, [], [], x7, x8, rfl, hd3, pr3, e1, by omega, l1⟩ (fun t σ H4 ht hpv => ?_) (fun σ H4 hpv => ?_)
  · obtain ⟨at2, left2, us, prs, x7', x8', rfl, hd4, pr4, b1, b2, b3⟩ := hpv
    refine ⟨PR, vs, srcs, at2, left2, t, us, prs, _, x8', x9, rfl, hd4, pr4, ⟨tnk (by omega), k5, m1, m3, l5, by omega⟩, shn, ⟨by omega, by omega⟩, b3, nPp, fPR, nPS, nPL, nPT, nPF, fun H5 at3 left3 us' prs' y8 c1 c2 c3 hd5 pr5 => ?_⟩
    exact ⟨at3, left3, us', prs', _, y8, rfl, hd5, pr5, by omega, by omega, c3⟩
  · obtain ⟨at2, left2, us, prs, x7', x8', rfl, hd4, pr4, b1, b2, b3⟩ := hpv
    -- way
    refine ⟨by show 2 ≤ sizeLine; decide, fun F2 hF2 => ?_⟩
    have hd5 := hd4.new (o := .lst [.str "perhaps", .str "none"]) hF2
    have pr5 := keepPr (TK.of_same (same_new (o := .lst [.str "perhaps", .str "none"]) hF2)) (upd_ne (ne_of_none pr4.at_ hF2)) pr4
    have nF2p : F2 ≠ p := hd4.ne hF2
    refine ⟨.ref p, rfl, p, S, 2, at2, left2, ms, rfl, ⟨by decide, by decide⟩, hd5.pen, hd5.cells, ⟨by omega, by omega⟩, b3, fun H6 d2 at3 left3 d20 d21 c1 c2 l3 o2 hp2 => ?_⟩
    obtain ⟨j2, rfl⟩ := nat_of d20
    have hd6 := hd5.take o2 hp2
    have pr6 := keepPr (hd5.tk o2) (o2 _ nPp) pr5
    obtain ⟨o, ho, sho, now⟩ := two_at j2 (by omega)
    have hF26 : H6 F2 = some (.lst [.str "perhaps", .str "none"]) := (o2 _ nF2p).trans upd_same
    refine ⟨F2, _, _, .str o, rfl, rfl, SqL.of hF26, ho, by show 2 ≤ sizeLine; decide, fun F3 hF3 => ?_⟩
    have hd7 := hd6.new (o := .lst [.str wW, .str o]) hF3
    have pr7 := keepPr (TK.of_same (same_new (o := .lst [.str wW, .str o]) hF3)) (upd_ne (ne_of_none pr6.at_ hF3)) pr6
    obtain ⟨wy, hwy, shw, wy0⟩ := way_of (k := k) sho m1
    refine ⟨.int (0 + (k : Int)), rfl, .int (many : Int), rfl, _, _, rfl, rfl, .inr ⟨_, rfl, F3, _, _, .str wy, rfl, rfl, SqL.of upd_same, hwy, ?_⟩⟩
    -- found.append(..)
    refine ⟨.ref FO, rfl, .inl ⟨rfl, _, SqL.of hd7.fnd⟩, .str wy, rfl, .ref L, rfl, .int (0 + (k : Int)), rfl, L, nm.map V.str, _, _, rfl, rfl, SqL.of hd7.nms, (by rw [Int.zero_add]; exact at_str (by omega)), ?_⟩
    refine ⟨.ref TB, rfl, .ref p, rfl, .ref TB, rfl, TB, tb.map V.str, rfl, .inl (SqL.of hd7.tbs), p, S, ((tb.map V.str).length : Int), at3, left3, ms, rfl, ⟨by rw [List.length_map]; omega, by rw [List.length_map]; omega⟩, hd7.pen, hd7.cells, ⟨by omega, by omega⟩, l3, fun H8 d3 at4 left4 d30 d31 g1 g2 l4 o3 hp3 => ?_⟩
    rw [List.length_map] at d31
    obtain ⟨j3, rfl⟩ := nat_of d30
    have hd8 := hd7.take o3 hp3
    have pr8 := keepPr (hd7.tk o3) (o3 _ nPp) pr7
    have j3l : j3 < tb.length := by omega
    refine ⟨TB, tb.map V.str, _, _, rfl, rfl, SqL.of hd8.tbs, at_str j3l, .ref PR, rfl, PR, us, rfl, .inl ⟨SqL.of pr8.at_, fun PT hPT => ?_⟩⟩
    have hd9 := hd8.new (o := .tup us) hPT
    have sPT : Same H8 (upd H8 PT (.tup us)) := same_new hPT
    have dPT : Dp K (upd H8 PT (.tup us)) (.ref PT) (.tuple (prs.map pairD)) := dp_new upd_same (same_dpAll sPT _ _ pr8.dat)
    refine ⟨by show 4 ≤ sizeLine; decide, fun T4 hT4 => ?_⟩
    have hd10 := hd9.new (o := .tup [.str wy, .str nm[k], .str tb[j3], .ref PT]) hT4
    have kn : k < nm.length := by omega
    have hFO := hd10.fnd
    have vl : vs.length = k := by rw [dpAll_len hd10.dat, List.length_map, made.len]
    refine ⟨FO, vs, _, rfl, rfl, hFO, ?_, ?_⟩
    · rw [vl]
      exact small1000 (by omega)
    · have nFp : FO ≠ p := hd.nF
      have nT4 : T4 ≠ FO := (ne_of_none hd9.fnd hT4).symm
      generalize hH11 : upd (upd H8 PT (.tup us)) T4 (.tup [.str wy, .str nm[k], .str tb[j3], .ref PT]) = H11 at hd10 hFO
      have hT : H11 T4 = some (.tup [.str wy, .str nm[k], .str tb[j3], .ref PT]) := by rw [← hH11, upd_same]
      have sT4 : Same (upd H8 PT (.tup us)) H11 := by rw [← hH11]; exact same_new hT4
      have dT4 : Dp K H11 (.ref T4) (srcD ⟨wy, nm[k], tb[j3], prs⟩) := dp_new hT (.cons (.str _) (.cons (.str _) (.cons (.str _) (.cons (same_dp sT4 _ _ dPT) .nil))))
      have tkF : TK H11 (upd H11 FO (.lst (vs ++ [.ref T4]))) := TK.of_btp btp_upd hFO
      refine q _ at4 left4 (vs ++ [.ref T4]) (srcs ++ [⟨wy, nm[k], tb[j3], prs⟩]) _ _ _ _ (by omega) (by omega) l4 ⟨btp_over fFO hd10.bt, ?_, ?_, ?_, ?_, upd_same, ?_, hd.nS, hd.nL, hd.nT, hd.nF⟩ ?_
      · rw [upd_ne nFp.symm]
        exact hd10.pen
      · rw [upd_ne nFS.symm]
        exact hd10.cells
      · rw [upd_ne nFL.symm]
        exact hd10.nms
      · rw [upd_ne nFT.symm]
        exact hd10.tbs
      · rw [List.map_append]
        exact dpAll_append (tk_dpAll tkF _ _ (tupy_srcs srcs) hd10.dat) (.cons (tk_dp tkF _ _ (tupy_src _) dT4) .nil)
      · exact made.snoc kn rfl wy0 (fun z hz => (pr8.sh z hz).2) ⟨shw, shn _ (List.getElem_mem kn), sht _ (List.getElem_mem j3l), by show prs.length ≤ 2; rw [pr8.len]; exact tn2, fun z hz => (pr8.sh z hz).1⟩
end
end K19

namespace K19
open PySem PySem.Spec PyProof.Rows L2
section
variable {P : Program} {w : World} {K : PySem.W.Frag} {mg : Str → Option Value} {base : Heap}
def tOutE (K : PySem.W.Frag) (H0 : Hp) (p S L : Addr) (nm : List Str) (ms : List Int) : TS := fun D σ H => ∃ (TB FO : Addr) (tb : List Str) (many k : Nat), tOut K H0 p S L TB FO nm tb ms many k D σ H
theorem cut_strs (ys : List Str) (j : Nat) : cutV (ys.map V.str) none (some (1 + (j : Int))) = (ys.take (1 + j)).map V.str := by
  unfold cutV
  rw [HT.sIx_none, List.drop_zero, show (1 + (j : Int)) = ((1 + j : Nat) : Int) by omega, HT.sIx_nat, List.length_map, Nat.sub_zero, ← List.map_take]
  congr 1
  rcases Nat.le_total (1 + j) ys.length with h | h
  · rw [Nat.min_eq_left h]
  · rw [Nat.min_eq_right h, List.take_length, List.take_of_length_le h]
theorem ok_sources {f fT : Addr} {fd fdT : FuncData} {kk : Nat} (F : Fun K "_law_sources" "_law_sources" sSources f fd) (FT : Fun K "_law_take" "_law_take" sTake fT fdT) (GT : FnOk P w K mg base CX0 (kk + 1) fT fdT ["_law_pen_here", "_law_many"] spTake)
    (bT : Binds K fdT ["_law_pen_here", "_law_many"] []) (gT : mg "_law_take" = some (.ref fT)) (mm : mg "min" = none) (mr : mg "range" = none) (mi : mg "int" = none) (ml : mg "len" = none) (mt : mg "tuple" = none) : FnOk P w K mg base CX0 (kk + 2) f fd ["_law_pen_here", "_law_names_here"] (spSources K) := by
  refine F.ok scSources (fun vs H Q E h => ?_) (fun cdv A outer s H vs Q E hr h => ?_)
  · obtain ⟨p, S, L, a, left, ms, nm, rfl, _⟩ := h
    rfl
  · obtain ⟨p, S, L, at_, left, ms, nm, rfl, hp, hs, ⟨a0, a1⟩, l0, hL, l5, shn, q⟩ := h
    have nSp : S ≠ p := p3_ne hp hs
    have nLp : L ≠ p := ne_of hL hp fun e => by
      have e2 : nm.map V.str = [.ref S, .int at_, .int left] := HO.lst.inj e
      cases nm with
      | nil => cases e2
      | cons x r => cases e2
    refine ⟨_, pss_cons (ps_set (i := 2) scSources.nd rfl (.inl rfl) (pe_op op_add pe_int (pe_call GT hr (by rfl) gT FT.kp bT .nil pass0 (pa_cons (pv 0) (pa_cons pe_int pa_nil)))))
      (pss_cons (ps_set (i := 3) scSources.nd rfl (.inl rfl) (pe_slice sl_list (pe_revL (pv 1)) po_none (po_some (pe_op op_add pe_int (pe_call GT hr (by rfl) gT FT.kp bT .nil pass0 (pa_cons (pv 0) (pa_cons pe_int pa_nil)))))))
      (pss_cons (ps_set (i := 4) scSources.nd rfl (.inl rfl) (pe_lst pa_nil))
      (pss_cons (ps_for PassesOwn.never rfl (pi_range1 (by rfl) mr (pa_cons (pe_op op_add (pv 2) (pe_call GT hr (by rfl) gT FT.kp bT .nil pass0 (pa_cons (pv 0) (pa_cons pe_int pa_nil)))) pa_nil))
        (pg_name (i := 5) scSources.nd rfl (Or.inl rfl)) (PSs.mk (t := tOutE K H p S L nm ms) fun pins s2 σ2 H2 D2 I2 ⟨TB, FO, tb, many, k, h2⟩ => (ok_out f fT fdT kk cdv A outer s H E hr FT GT bT gT mm mr mi ml mt H p S L TB FO nm tb ms many k).run pins s2 σ2 H2 D2 I2 h2))
      (pss_one (ps_ret (pe_callTy call_tuple_of (by rfl) mt (by decide +kernel) (pa_cons (pv 4) pa_nil))))))), ?_⟩
    refine ⟨.ref p, rfl, p, S, 3, at_, left, ms, rfl, ⟨by decide, by decide⟩, hp, hs, ⟨a0, by omega⟩, l0, fun H1 d1 at1 left1 d10 d11 e1 e2 l1 o1 hp1 => ?_⟩
    obtain ⟨m0, rfl⟩ := nat_of d10
    have b1 : Btp p H H1 := btp_eq o1
    have mn : 1 + (m0 : Int) = ((1 + m0 : Nat) : Int) := by omega
    refine ⟨_, _, rfl, rfl, ?_⟩
    -- the tables
    refine ⟨.ref L, rfl, L, nm.map V.str, rfl, SqL.of (b1 _ _ nLp hL), fun RV hRV => ?_⟩
    have b2 : Btp p H (upd H1 RV (.lst (nm.map V.str).reverse)) := b1.trans (btp_new hRV)
    have nRV : RV ≠ p := fun z => by
      rw [z, hp1] at hRV
      cases hRV
    refine ⟨.ref p, rfl, p, S, 3, at1, left1, ms, rfl, ⟨by decide, by decide⟩, same_new hRV _ _ hp1, b2 _ _ nSp hs, ⟨by omega, by omega⟩, l1, fun H2 d2 at2 left2 d20 d21 e3 e4 l2 o2 hp2 => ?_⟩
    obtain ⟨j2, rfl⟩ := nat_of d20
    have b3 : Btp p H H2 := b2.trans (btp_eq o2)
    have hRV2 : H2 RV = some (.lst (nm.reverse.map V.str)) := by
      rw [o2 _ nRV, upd_same, List.map_reverse]
    refine ⟨1, (j2 : Int), rfl, rfl, 1 + (j2 : Int), rfl, RV, _, rfl, SqL.of hRV2, fun TB hTB => ?_⟩
    rw [cut_strs]
    have lt : (nm.reverse.take (1 + j2)).length = 1 + j2 := by
      rw [List.length_take, List.length_reverse]
      omega
    have sht : ∀ x ∈ nm.reverse.take (1 + j2), Sh x := fun x hx => shn x (List.mem_reverse.mp (List.mem_of_mem_take hx))
    generalize nm.reverse.take (1 + j2) = tb at lt sht
    have b4 : Btp p H (upd H2 TB (.lst (tb.map V.str))) := b3.trans (btp_new hTB)
    have nTB : TB ≠ p := fun z => by
      rw [z, hp2] at hTB
      cases hTB
    -- found = []
    refine ⟨Nat.zero_le _, fun FO hFO => ?_⟩
    have b5 : Btp p H (upd (upd H2 TB (.lst (tb.map V.str))) FO (.lst [])) := b4.trans (btp_new hFO)
    have nFT : FO ≠ TB := (ne_of_none upd_same hFO).symm
    have hp3 : (upd (upd H2 TB (.lst (tb.map V.str))) FO (.lst [])) p = some (P3 S at2 left2) := same_new hFO _ _ (same_new hTB _ _ hp2)
    have nFO : FO ≠ p := fun z => by
      rw [z] at hFO
      rw [same_new hTB _ _ hp2] at hFO
      cases hFO
    have fFO : H FO = none := by
      cases z : H FO with
      | none => rfl
      | some o =>
        rw [b4 FO o nFO z] at hFO
        cases hFO
    have nFS : FO ≠ S := (ne_of_none (b4 _ _ nSp hs) hFO).symm
    have nFL : FO ≠ L := (ne_of_none (b4 _ _ nLp hL) hFO).symm
    have hd : Hd K H (upd (upd H2 TB (.lst (tb.map V.str))) FO (.lst [])) p S L TB FO nm tb ms at2 left2 [] [] :=
      ⟨b5, hp3, b5 _ _ nSp hs, b5 _ _ nLp hL, by rw [upd_ne nFT.symm, upd_same], upd_same, .nil, nSp, nLp, nTB, nFO⟩
    generalize upd (upd H2 TB (.lst (tb.map V.str))) FO (.lst []) = H3 at hd
    refine ⟨.int (1 + (m0 : Int)), rfl, .ref p, rfl, p, S, 3, at2, left2, ms, rfl, ⟨by decide, by decide⟩, hd.pen, hd.cells, ⟨by omega, by omega⟩, l2, fun H4 d3 at3 left3 d30 d31 e5 e6 l3 o3 hp4 => ?_⟩
    obtain ⟨j3, rfl⟩ := nat_of d30
    have hd4 := hd.take o3 hp4
    refine ⟨_, _, rfl, rfl, (((1 + m0) + j3 : Nat) : Int), congrArg (fun z => [V.int z]) (show 1 + (m0 : Int) + (j3 : Int) = (((1 + m0) + j3 : Nat) : Int) by omega), by omega, by omega, ?_⟩
    refine for_range (lo := 0) (n := (1 + m0) + j3) (fun k σ H' => ∃ (at_' left' : Int) (vs : List V) (srcs : List Sr) (x5 x6 x7 x8 x9 : Option V), σ = [some (.ref p), some (.ref L), some (.int ((1 + m0 : Nat) : Int)), some (.ref TB), some (.ref FO), x5, x6, x7, x8, x9] ∧
        Hd K H H' p S L TB FO nm tb ms at_' left' vs srcs ∧ MadeK nm k srcs ∧ at_ ≤ at_' ∧ at_' ≤ at_ + 3 + 19 * (k : Int) ∧ 0 ≤ left')
      ⟨at3, left3, [], [], none, none, none, none, none, by rw [← mn]; rfl, hd4, MadeK.nil nm, by omega, by omega, l3⟩ (fun k σ H5 hk hpv => ?_) (fun σ H5 hpv => ?_)
    · obtain ⟨at4, left4, vs, srcs, x5, x6, x7, x8, x9, rfl, hd5, made, c1, c2, c3⟩ := hpv
      refine ⟨TB, FO, tb, 1 + m0, k, at4, left4, vs, srcs, x6, x7, x8, x9, rfl, hd5, made, ⟨by omega, by omega, by omega, l5, by omega, by omega⟩, shn, sht, ⟨by omega, by omega⟩, c3, fFO, nFS, nFL, nFT, fun H6 at5 left5 vs' srcs' y6 y7 y8 y9 g1 g2 g3 hd6 made' => ?_⟩
      exact ⟨at5, left5, vs', srcs', _, y6, y7, y8, y9, rfl, hd6, made', by omega, by omega, g3⟩
    · obtain ⟨at4, left4, vs, srcs, x5, x6, x7, x8, x9, rfl, hd5, made, c1, c2, c3⟩ := hpv
      refine ⟨.ref FO, rfl, FO, vs, rfl, .inl ⟨SqL.of hd5.fnd, fun T hT => ?_⟩⟩
      have hd6 := hd5.new (o := .tup vs) hT
      exact q _ T srcs ((1 + m0) + j3) at4 left4 hd6.bt hd6.pen c1 (by omega) c3 (dp_new upd_same hd6.dat) (by omega) (by omega) made
end
end K19

namespace K19
open PySem PySem.Spec PyProof.Rows L2
theorem inV_str (x : Str) (xs : List Str) : inV (.str x) (xs.map V.str) = decide (x ∈ xs) := by
  unfold inV
  induction xs with
  | nil => rfl
  | cons y r ih =>
    rw [List.map_cons, List.any_cons, ih]
    show ((y == x) || decide (x ∈ r)) = _
    by_cases h : y = x
    · subst h
      simp
    · have h2 : ¬ x = y := fun e => h e.symm
      simp [h, h2]
theorem inV_nat (n : Nat) (ns : List Nat) : inV (vN n) (ns.map vN) = decide (n ∈ ns) := by
  unfold inV
  induction ns with
  | nil => rfl
  | cons y r ih =>
    rw [List.map_cons, List.any_cons, ih]
    show (((y : Int) == (n : Int)) || decide (n ∈ r)) = _
    by_cases h : y = n
    · subst h
      simp
    · have h2 : ¬ n = y := fun e => h e.symm
      have h3 : ¬ (y : Int) = (n : Int) := by omega
      simp [h2, h3]
theorem flat_str (xs : List Str) : (xs.map V.str).all flatV = true := by
  rw [List.all_map]
  exact List.all_eq_true.mpr fun _ _ => rfl
theorem flat_nat (xs : List Nat) : (xs.map vN).all flatV = true := by
  rw [List.all_map]
  exact List.all_eq_true.mpr fun _ _ => rfl
theorem dec_nat (i n : Nat) : decide (V.int (i : Int) = V.int (n : Int)) = decide (i = n) := by
  by_cases h : i = n
  · rw [decide_eq_true h, decide_eq_true (by rw [h])]
  · rw [decide_eq_false h, decide_eq_false fun z => h (by have := V.int.inj z; omega)]
theorem dec_str (x y : Str) : decide (V.str x = V.str y) = decide (x = y) := by
  by_cases h : x = y
  · rw [decide_eq_true h, decide_eq_true (by rw [h])]
  · rw [decide_eq_false h, decide_eq_false fun z => h (V.str.inj z)]
/-- a told link: None, or a tuple of its three texts -/
def LinkV (K : PySem.W.Frag) (H : Hp) (v : V) : Option (Pr Str) → Prop
  | none => v = .non
  | some p => Dp K H v (pairD p)
abbrev nLinkTo : List Str := ["ask", "number", "ahead", "alias", "aliases", "owner", "source", "own", "other", "column", "one"]
theorem scLinkTo : FnScope nLinkTo ["ask", "number", "ahead"] (defScope sLinkTo) := ⟨rfl, rfl, rfl, by decide +kernel, rfl, by decide +kernel, by decide +kernel⟩
def spLink (K : PySem.W.Frag) (lk : List Sr → Nat → List Nat → Option (Pr Str)) : Sp := fun vs H Q _ => ∃ (a o : Addr) (S : List Sr) (tl : List PyData) (n : Nat) (ahead : List Nat), vs = [.ref a, vN n, .ref o] ∧ Dp K H (.ref a) (askD S tl) ∧ SqT K H o (ahead.map vN) ∧ S.length ≤ 1000 ∧ ahead.length ≤ 1000 ∧ n < S.length ∧
  (∀ m ∈ ahead, m < S.length) ∧ Wf S ∧ ∀ H' v, Same H H' → LinkV K H' v (lk S n ahead) → Q v H'
section
variable {P : Program} {w : World} {K : PySem.W.Frag} {mg : Str → Option Value} {base : Heap}
/-- the pairs of a source -/
theorem pairs_get {H : Hp} {ys : List V} {l : List (Pr Str)} {i : Nat} {x : V} (h : DpAll K H ys (l.map pairD)) (e : ys[i]? = some x) : ∃ p, l[i]? = some p ∧ Dp K H x (pairD p) := by
  have hl : ys.length = l.length := by rw [dpAll_len h, List.length_map]
  have hi : i < l.length := by rw [← hl]; exact (List.getElem?_eq_some_iff.mp e).1
  obtain ⟨v, h1, h2⟩ := dpAll_get (i := i) (d := pairD l[i]) h (by rw [List.getElem?_map, List.getElem?_eq_getElem hi]; rfl)
  rw [e] at h1
  cases h1
  exact ⟨l[i], List.getElem?_eq_getElem hi, h2⟩
theorem ok_linkTo {f : Addr} {fd : FuncData} {k : Nat} (F : Fun K "link_to" "link_to" sLinkTo f fd) (me : mg "enumerate" = none) : FnOk P w K mg base CX0 (k + 1) f fd ["ask", "number", "ahead"] (spLink K linkTo) := by
  refine F.ok scLinkTo (fun vs H Q E h => ?_) (fun cdv A outer s H vs Q E hr h => ?_)
  · obtain ⟨a, o, S, tl, n, ahead, rfl, _⟩ := h
    rfl
  · obtain ⟨a, o, S, tl, n, ahead, rfl, hA, hO, hlen, hal, hn, hm, wf, q⟩ := h
    refine ⟨_, pss_cons (ps_set (i := 3) scLinkTo.nd rfl (.inl rfl) (pe_ix ix_tup (pe_ix ix_tup (pe_ix ix_tup (pv 0) pe_int (fun _ _ => rfl)) (pv 1) (fun _ _ => rfl)) pe_int (fun _ _ => rfl)))
      (pss_cons (ps_setLc (i := 4) (own := [("one", 10)]) (g := gName 10) (tt := tYes) (te := tOp (rIxT K) (tOp (rIxT K) (tOp (rIxT K) (tVar 0) (tC (.int 0))) (tVar 10)) (tC (.int 1))) rfl scLinkTo.nd rfl rfl (sw_true rfl rfl rfl (by decide +kernel)) (pi_tup (pv 2))
          (blkOk_by (own := [("one", 10)]) (N := nLinkTo) (sc := defScope sLinkTo) (by decide +kernel))
          (fun _ _ _ _ _ => pg_name (i := 10) scLinkTo.nd rfl (Or.inl rfl)) (fun _ _ _ _ _ => pts_nil) (fun _ _ _ _ _ => pe_ix ix_tup (pe_ix ix_tup (pe_ix ix_tup (pv 0) pe_int (fun _ _ => rfl)) (pv 10) (fun _ _ => rfl)) pe_int (fun _ _ => rfl)))
      (pss_cons (ps_for PassesOwn.never rfl (pi_enumT (by rfl) me (pa_cons (pe_ix ix_tup (pv 0) pe_int (fun _ _ => rfl)) pa_nil))
          (pg_tup rfl (pgs_cons (pg_name (i := 5) scLinkTo.nd rfl (Or.inl rfl)) (pgs_cons (pg_name (i := 6) scLinkTo.nd rfl (Or.inl rfl)) pgs_nil)))
          (pss_one (ps_for PassesOwn.never rfl (pi_tup (pe_ix ix_tup (pv 6) pe_int (fun _ _ => rfl)))
            (pg_tup rfl (pgs_cons (pg_name (i := 7) scLinkTo.nd rfl (Or.inl rfl)) (pgs_cons (pg_name (i := 8) scLinkTo.nd rfl (Or.inl rfl)) (pgs_cons (pg_name (i := 9) scLinkTo.nd rfl (Or.inl rfl)) pgs_nil))))
            (pss_cons (ps_if (PW.pt (pw_and (pt_cmpR op_eq (pv 5) (pv 1) (nomark _)) (pw_and1 (pt_cmpR op_in_seq (pv 8) (pv 4) rfl))))
                (pss_one (ps_ret (pe_tup (pa_cons (pv 7) (pa_cons (pv 8) (pa_cons (pv 9) pa_nil)))))) pss_nil)
            (pss_one (ps_if (PW.pt (pw_and (pt_cmpR op_in_seq (pv 5) (pv 2) rfl) (pw_and1 (pt_cmpR op_eq (pv 8) (pv 3) (nomark _)))))
                (pss_one (ps_ret (pe_tup (pa_cons (pv 9) (pa_cons (pe_ix ix_tup (pv 6) pe_int (fun _ _ => rfl)) (pa_cons (pv 7) pa_nil)))))) pss_nil))))))
      (pss_one (ps_ret pe_non)))), ?_⟩
    obtain ⟨a', xs, sA, ys, e, h1, h2, h3, h4, h5⟩ := ask_at hA
    cases e
    -- alias
    obtain ⟨vn, hvn⟩ : ∃ v, ys[n]? = some v := ⟨_, List.getElem?_eq_getElem (by omega)⟩
    obtain ⟨sn, hsn, dsn⟩ := srcs_get h5 hvn
    obtain ⟨bn, pn, rfl, gn, _⟩ := src_at dsn
    refine ⟨.ref a, rfl, a, xs, 0, .ref sA, rfl, rfl, h1, atI_nat (j := 0) h2, vN n, rfl, sA, ys, (n : Int), .ref bn, rfl, rfl, h3, atI_nat hvn, bn, _, 1, .str sn.name, rfl, rfl, gn, atI_nat (j := 1) rfl, ?_⟩
    -- aliases
    refine ⟨.ref o, rfl, o, rfl, ⟨_, hO⟩, fun AL hAL => ?_⟩
    refine lc_tup (K := K) (a := o) (xs := ahead.map vN) (fun i H' => Same H H' ∧ H' AL = some (.lst ((namesOf S (ahead.take i)).map V.str)) ∧ (namesOf S (ahead.take i)).length = i) ⟨same_new hAL, upd_same, rfl⟩ (fun i H' _ p => same_tup p.1 hO) (fun i x H1 hx hp => ?_) (fun H1 hp => ?_)
    · obtain ⟨sm, hl, hll⟩ := hp
      rw [List.getElem?_map] at hx
      obtain ⟨m, hm1, hm2⟩ := Option.map_eq_some_iff.mp hx
      subst hm2
      have ml : m < S.length := hm m (List.mem_of_getElem? hm1)
      obtain ⟨vm, hvm⟩ : ∃ v, ys[m]? = some v := ⟨_, List.getElem?_eq_getElem (by omega)⟩
      obtain ⟨sm', hsm, dsm⟩ := srcs_get h5 hvm
      obtain ⟨bm, pm, rfl, gm, _⟩ := src_at dsm
      have il : i < ahead.length := (List.getElem?_eq_some_iff.mp hm1).1
      have ht : ahead.take (i + 1) = ahead.take i ++ [m] := by
        rw [List.take_add_one, hm1]
        rfl
      refine ⟨rfl, .ref a, rfl, a, xs, 0, .ref sA, rfl, rfl, same_tup sm h1, atI_nat (j := 0) h2, vN m, rfl, sA, ys, (m : Int), .ref bm, rfl, rfl, same_tup sm h3, atI_nat hvm, bm, _, 1, .str sm'.name, rfl, rfl, same_tup sm gm, atI_nat (j := 1) rfl, _, hl, ?_, same_over hAL sm, ?_, ?_⟩
      · rw [List.length_map, hll]
        exact small1000 (by omega)
      · rw [upd_same, ht, namesOf_snoc hsm, List.map_append]
        rfl
      · rw [ht, namesOf_snoc hsm, List.length_append, hll]
        rfl
    · obtain ⟨sm, hl, hll⟩ := hp
      rw [List.length_map, List.take_length] at hl
      -- the loop
      have elk := linkTo_eq (ahead := ahead) hsn
      generalize hf : hit n sn.name ahead (namesOf S ahead) = fh at elk
      refine ⟨.ref a, rfl, a, xs, 0, .ref sA, rfl, rfl, same_tup sm h1, atI_nat (j := 0) h2, sA, ys, rfl, same_tup sm h3, ?_⟩
      refine for_it walk_enumT (fun i σ H' => ∃ x5 x6 x7 x8 x9 x10, σ = [some (.ref a), some (vN n), some (.ref o), some (.str sn.name), some (.ref AL), x5, x6, x7, x8, x9, x10] ∧ Same H1 H' ∧ ∀ (k' : Nat) t, k' < i → S[k']? = some t → ∀ r ∈ t.pairs, fh k' t r = none)
        ⟨none, none, none, none, none, none, rfl, Same.refl _, fun k' t hk => absurd hk (Nat.not_lt_zero _)⟩ (fun i σ H' _ p => by
          obtain ⟨_, _, _, _, _, _, _, s2, _⟩ := p
          exact same_tup (sm.trans s2) h3) (fun i x σ H2 H3 hi hp hy => ?_) (fun σ H2 hp => ?_)
      · obtain ⟨x5, x6, x7, x8, x9, x10, rfl, s2, before⟩ := hp
        obtain ⟨T, y1, y2, rfl, nT, rfl, e1, e2⟩ := hy
        cases e1
        obtain ⟨si, hsi, dsi⟩ := srcs_get h5 e2
        have s3 := s2.trans (same_new (o := .tup [.int (i : Nat), y2]) nT)
        obtain ⟨bi, pi, rfl, gi, dpi⟩ := src_at (same_dp (sm.trans s3) _ _ dsi)
        refine ⟨T, [.int (i : Nat), .ref bi], rfl, SqT.of upd_same, rfl, _, _, rfl, _, _, rfl, rfl, ?_⟩
        obtain ⟨p', zs, epi, gp, dz⟩ := dp_tup dpi
        cases epi
        refine ⟨.ref bi, rfl, bi, _, 3, .ref pi, rfl, rfl, gi, atI_nat (j := 3) rfl, pi, rfl, ⟨_, gp⟩, ?_⟩
        generalize hH3 : upd H2 T (.tup [.int (i : Nat), .ref bi]) = H3 at s3 gi gp dz
        refine for_tup (K := K) (a := pi) (xs := zs) (fun j σ H' => ∃ x7 x8 x9, σ = [some (.ref a), some (vN n), some (.ref o), some (.str sn.name), some (.ref AL), some (.int (i : Nat)), some (.ref bi), x7, x8, x9, x10] ∧ H' = H3 ∧ ∀ (m : Nat) r, m < j → si.pairs[m]? = some r → fh i si r = none)
          ⟨x7, x8, x9, rfl, rfl, fun m r hm' => absurd hm' (Nat.not_lt_zero _)⟩ (fun j σ H' _ p => by
            obtain ⟨_, _, _, _, rfl, _⟩ := p
            exact gp) (fun j x σ H4 hx hp => ?_) (fun σ H4 hp => ?_)
        · obtain ⟨x7, x8, x9, rfl, rfl, bef⟩ := hp
          obtain ⟨pr, hpr, dpr⟩ := pairs_get dz hx
          obtain ⟨bp, rfl, gbp⟩ := pair_at dpr
          refine ⟨bp, _, rfl, gbp, rfl, _, _, rfl, _, _, rfl, _, _, rfl, rfl, ?_⟩
          have hAL3 : SqL K H4 AL ((namesOf S ahead).map V.str) := SqL.of (s3 _ _ hl)
          have hO3 : SqT K H4 o (ahead.map vN) := same_tup (sm.trans s3) hO
          have nx : fh i si pr = none → ∀ (m : Nat) r, m < j + 1 → si.pairs[m]? = some r → fh i si r = none := fun e m r hm' hr => by
            by_cases em : m = j
            · rw [em, hpr] at hr
              cases hr
              exact e
            · exact bef m r (by omega) hr
          have found : ∀ z, fh i si pr = some z → linkTo S n ahead = some z := fun z hz => by
            rw [elk]
            exact firstHit_at hsi hpr (by rw [Nat.zero_add]; exact hz) (fun k' t hk ht r hr => by rw [Nat.zero_add]; exact before k' t hk ht r hr) fun m r hm' hr => by rw [Nat.zero_add]; exact bef m r hm' hr
          have efh : fh i si pr = hit n sn.name ahead (namesOf S ahead) i si pr := by rw [hf]
          have out1 : ∀ x y z, fh i si pr = some ⟨x, y, z⟩ → ∀ T, H4 T = none → Q (.ref T) (upd H4 T (.tup [.str x, .str y, .str z])) := fun x y z hz T hT => by
            refine q _ _ ((sm.trans s3).trans (same_new hT)) ?_
            rw [found _ hz]
            exact dp_new upd_same (.cons (.str _) (.cons (.str _) (.cons (.str _) .nil)))
          -- the second test
          have second : ¬ (i = n ∧ pr.als ∈ namesOf S ahead) → (tIfS (tAnd (tTest (tOp (rIn K false) (tVar 5) (tVar 2))) (tTest (tOp rEq (tVar 8) (tVar 3)))) (tRet (tTup (tCons (tVar 9) (tCons (tOp (rIxT K) (tVar 6) (tC (.int 1))) (tCons (tVar 7) tNil))))) tNext)
              { nx := fun σ H' => ∃ x7 x8 x9, σ = [some (.ref a), some (vN n), some (.ref o), some (.str sn.name), some (.ref AL), some (.int (i : Nat)), some (.ref bi), x7, x8, x9, x10] ∧ H' = H4 ∧ ∀ (m : Nat) r, m < j + 1 → si.pairs[m]? = some r → fh i si r = none, rt := Q }
              [some (.ref a), some (vN n), some (.ref o), some (.str sn.name), some (.ref AL), some (.int (i : Nat)), some (.ref bi), some (.str pr.own), some (.str pr.als), some (.str pr.col), x10] H4 := fun ne => by
            refine ⟨vN i, rfl, .ref o, rfl, o, _, rfl, .inr hO3, rfl, flat_nat _, _, rfl, ?_⟩
            rw [inV_nat]
            refine ite2 (fun c1 => ?_) (fun c1 => ?_)
            · have c1' : i ∈ ahead := by simpa using c1
              refine ⟨.str pr.als, rfl, .str sn.name, rfl, rfl, _, rfl, ?_⟩
              rw [dec_str]
              refine ite2 (fun c2 => ?_) (fun c2 => ?_)
              · have c2' : pr.als = sn.name := of_decide_eq_true c2
                have hz : fh i si pr = some ⟨pr.col, si.name, pr.own⟩ := by
                  rw [efh]
                  unfold hit
                  rw [if_neg ne, if_pos ⟨c1', c2'⟩]
                refine ⟨_, rfl, .ref bi, rfl, bi, _, 1, .str si.name, rfl, rfl, gi, atI_nat (j := 1) rfl, _, rfl, by show 3 ≤ sizeLine; decide, fun T hT => ?_⟩
                exact out1 _ _ _ hz T hT
              · refine ⟨_, _, _, rfl, rfl, nx ?_⟩
                rw [efh]
                unfold hit
                rw [if_neg ne, if_neg fun z => c2 (decide_eq_true z.2)]
            · have c1' : ¬ i ∈ ahead := by simpa using c1
              refine ⟨_, _, _, rfl, rfl, nx ?_⟩
              rw [efh]
              unfold hit
              rw [if_neg ne, if_neg fun z => c1' z.1]
          refine ⟨.int (i : Nat), rfl, vN n, rfl, rfl, _, rfl, ?_⟩
          rw [show decide (V.int ((i : Nat) : Int) = vN n) = decide (i = n) from dec_nat i n]
          refine ite2 (fun c1 => ?_) (fun c1 => ?_)
          · have c1' : i = n := of_decide_eq_true c1
            refine ⟨.str pr.als, rfl, .ref AL, rfl, AL, _, rfl, .inl hAL3, rfl, flat_str _, _, rfl, ?_⟩
            rw [inV_str]
            refine ite2 (fun c2 => ?_) (fun c2 => ?_)
            · have c2' : pr.als ∈ namesOf S ahead := by simpa using c2
              have hz : fh i si pr = some pr := by
                rw [efh]
                unfold hit
                rw [if_pos ⟨c1', c2'⟩]
              refine ⟨_, rfl, _, rfl, _, rfl, by show 3 ≤ sizeLine; decide, fun T hT => ?_⟩
              exact out1 pr.own pr.als pr.col hz T hT
            · have c2' : ¬ pr.als ∈ namesOf S ahead := by simpa using c2
              exact second fun z => c2' z.2
          · exact second fun z => c1 (decide_eq_true z.1)
        · obtain ⟨x7, x8, x9, rfl, rfl, bef⟩ := hp
          refine ⟨_, _, x7, x8, x9, x10, rfl, s3, fun k' t hk ht r hr => ?_⟩
          by_cases ek : k' = i
          · rw [ek, hsi] at ht
            cases ht
            obtain ⟨m, hm', er⟩ := List.getElem_of_mem hr
            have zl : zs.length = si.pairs.length := by rw [dpAll_len dz, List.length_map]
            rw [ek]
            exact bef m r (by omega) (by rw [List.getElem?_eq_getElem hm', er])
          · exact before k' t (by omega) ht r hr
      · obtain ⟨x5, x6, x7, x8, x9, x10, rfl, s2, before⟩ := hp
        refine q H2 .non (sm.trans s2) ?_
        have e : linkTo S n ahead = none := by
          rw [elk]
          exact firstHit_none S 0 fun k' t ht p hp => by
            rw [Nat.zero_add]
            exact before k' t (by rw [h4]; exact (List.getElem?_eq_some_iff.mp ht).1) ht p hp
        rw [e]
        rfl
end
end K19

namespace K19
open PySem PySem.Spec PyProof.Rows L2
abbrev nLink : List Str := ["_law_asked", "_law_number", "_law_ahead", "_law_source", "_law_aliases", "_law_owner", "_law_own", "_law_alias", "_law_column", "_law_ends"]
theorem scLink : FnScope nLink ["_law_asked", "_law_number", "_law_ahead"] (defScope sLink) := ⟨rfl, rfl, rfl, by decide +kernel, rfl, by decide +kernel, by decide +kernel⟩
section
variable {P : Program} {w : World} {K : PySem.W.Frag} {mg : Str → Option Value} {base : Heap}
theorem ok_lawLink {f : Addr} {fd : FuncData} {k : Nat} (F : Fun K "_law_link" "_law_link" sLink f fd) (me : mg "enumerate" = none) : FnOk P w K mg base CX0 (k + 1) f fd ["_law_asked", "_law_number", "_law_ahead"] (spLink K lawLink) := by
  refine F.ok scLink (fun vs H Q E h => ?_) (fun cdv A outer s H vs Q E hr h => ?_)
  · obtain ⟨a, o, S, tl, n, ahead, rfl, _⟩ := h
    rfl
  · obtain ⟨a, o, S, tl, n, ahead, rfl, hA, hO, hlen, hal, hn, hm, wf, q⟩ := h
    refine ⟨_, pss_cons (ps_setLc (i := 4) (own := [("_law_source", 3)]) (g := gName 3) (tt := tYes) (te := tOp (rIxT K) (tVar 3) (tC (.int 1))) rfl scLink.nd rfl rfl (sw_true rfl rfl rfl (by decide +kernel)) (pi_tup (pe_ix ix_tup (pv 0) pe_int (fun _ _ => rfl)))
          (blkOk_by (own := [("_law_source", 3)]) (N := nLink) (sc := defScope sLink) (by decide +kernel))
          (fun _ _ _ _ _ => pg_name (i := 3) scLink.nd rfl (Or.inl rfl)) (fun _ _ _ _ _ => pts_nil) (fun _ _ _ _ _ => pe_ix ix_tup (pv 3) pe_int (fun _ _ => rfl)))
      (pss_cons (ps_for PassesOwn.never rfl (pi_enumT (by rfl) me (pa_cons (pe_ix ix_tup (pv 0) pe_int (fun _ _ => rfl)) pa_nil))
          (pg_tup rfl (pgs_cons (pg_name (i := 5) scLink.nd rfl (Or.inl rfl)) (pgs_cons (pg_name (i := 3) scLink.nd rfl (Or.inl rfl)) pgs_nil)))
          (pss_one (ps_for PassesOwn.never rfl (pi_tup (pe_ix ix_tup (pv 3) pe_int (fun _ _ => rfl)))
            (pg_tup rfl (pgs_cons (pg_name (i := 6) scLink.nd rfl (Or.inl rfl)) (pgs_cons (pg_name (i := 7) scLink.nd rfl (Or.inl rfl)) (pgs_cons (pg_name (i := 8) scLink.nd rfl (Or.inl rfl)) pgs_nil))))
            (pss_cons (ps_set (i := 9) scLink.nd rfl (.inl rfl) (pe_tup (pa_cons (pv 5) (pa_cons (pe_bm PySem.F.plainAttrs_list PySem.F.slot_list_index PySem.F.type_list_index mt_lindexS (pv 4) (pa_cons (pv 7) pa_nil)) pa_nil))))
            (pss_cons (ps_if (PW.pt (pw_and (pt_cmpR op_eq (pe_ix ix_tup (pv 9) pe_int (fun _ _ => rfl)) (pv 1) (nomark _)) (pw_and1 (pt_cmpR op_in_seq (pe_ix ix_tup (pv 9) pe_int (fun _ _ => rfl)) (pv 2) rfl))))
                (pss_one (ps_ret (pe_tup (pa_cons (pv 6) (pa_cons (pv 7) (pa_cons (pv 8) pa_nil)))))) pss_nil)
            (pss_one (ps_if (PW.pt (pw_and (pt_cmpR op_eq (pe_ix ix_tup (pv 9) pe_int (fun _ _ => rfl)) (pv 1) (nomark _)) (pw_and1 (pt_cmpR op_in_seq (pe_ix ix_tup (pv 9) pe_int (fun _ _ => rfl)) (pv 2) rfl))))
                (pss_one (ps_ret (pe_tup (pa_cons (pv 8) (pa_cons (pe_ix ix_tup (pv 3) pe_int (fun _ _ => rfl)) (pa_cons (pv 6) pa_nil)))))) pss_nil)))))))
      (pss_one (ps_ret pe_non))), ?_⟩
    obtain ⟨a', xs, sA, ys, e, h1, h2, h3, h4, h5⟩ := ask_at hA
    cases e
    -- aliases
    refine ⟨.ref a, rfl, a, xs, 0, .ref sA, rfl, rfl, h1, atI_nat (j := 0) h2, sA, rfl, ⟨_, h3⟩, fun AL hAL => ?_⟩
    refine lc_tup (K := K) (a := sA) (xs := ys) (fun i H' => Same H H' ∧ H' AL = some (.lst (((aliases S).take i).map V.str))) ⟨same_new hAL, upd_same⟩ (fun i H' _ p => same_tup p.1 h3) (fun i x H1 hx hp => ?_) (fun H1 hp => ?_)
    · obtain ⟨sm, hl⟩ := hp
      obtain ⟨si, hsi, dsi⟩ := srcs_get h5 hx
      obtain ⟨bi, pi, rfl, gi, _⟩ := src_at (same_dp sm _ _ dsi)
      have il : i < S.length := (List.getElem?_eq_some_iff.mp hsi).1
      have ht : (aliases S).take (i + 1) = (aliases S).take i ++ [si.name] := by
        rw [List.take_add_one, List.getElem?_map, hsi]
        rfl
      refine ⟨rfl, .ref bi, rfl, bi, _, 1, .str si.name, rfl, rfl, gi, atI_nat (j := 1) rfl, _, hl, ?_, same_over hAL sm, ?_⟩
      · rw [List.length_map, List.length_take]
        exact small1000 (by omega)
      · rw [upd_same, ht, List.map_append]
        rfl
    · obtain ⟨sm, hl⟩ := hp
      rw [show (aliases S).take ys.length = aliases S from List.take_of_length_le (by rw [List.length_map, h4]; exact Nat.le_refl _)] at hl
      -- the loop
      have elk : lawLink S n ahead = firstHit (lawHit n ahead (aliases S)) 0 S := rfl
      generalize hf : lawHit n ahead (aliases S) = fh at elk
      refine ⟨.ref a, rfl, a, xs, 0, .ref sA, rfl, rfl, same_tup sm h1, atI_nat (j := 0) h2, sA, ys, rfl, same_tup sm h3, ?_⟩
      refine for_it walk_enumT (fun i σ H' => ∃ x3 x5 x6 x7 x8 x9, σ = [some (.ref a), some (vN n), some (.ref o), x3, some (.ref AL), x5, x6, x7, x8, x9] ∧ Same H1 H' ∧ ∀ (k' : Nat) t, k' < i → S[k']? = some t → ∀ r ∈ t.pairs, fh k' t r = none)
        ⟨none, none, none, none, none, none, rfl, Same.refl _, fun k' t hk => absurd hk (Nat.not_lt_zero _)⟩ (fun i σ H' _ p => by
          obtain ⟨_, _, _, _, _, _, _, s2, _⟩ := p
          exact same_tup (sm.trans s2) h3) (fun i x σ H2 H3 hi hp hy => ?_) (fun σ H2 hp => ?_)
      · obtain ⟨x3, x5, x6, x7, x8, x9, rfl, s2, before⟩ := hp
        obtain ⟨T, y1, y2, rfl, nT, rfl, e1, e2⟩ := hy
        cases e1
        obtain ⟨si, hsi, dsi⟩ := srcs_get h5 e2
        have s3 := s2.trans (same_new (o := .tup [.int (i : Nat), y2]) nT)
        obtain ⟨bi, pi, rfl, gi, dpi⟩ := src_at (same_dp (sm.trans s3) _ _ dsi)
        refine ⟨T, [.int (i : Nat), .ref bi], rfl, SqT.of upd_same, rfl, _, _, rfl, _, _, rfl, rfl, ?_⟩
        obtain ⟨p', zs, epi, gp, dz⟩ := dp_tup dpi
        cases epi
        refine ⟨.ref bi, rfl, bi, _, 3, .ref pi, rfl, rfl, gi, atI_nat (j := 3) rfl, pi, rfl, ⟨_, gp⟩, ?_⟩
        generalize hH3 : upd H2 T (.tup [.int (i : Nat), .ref bi]) = H3 at s3 gi gp dz
        refine for_tup (K := K) (a := pi) (xs := zs) (fun j σ H' => ∃ x6 x7 x8 x9, σ = [some (.ref a), some (vN n), some (.ref o), some (.ref bi), some (.ref AL), some (.int (i : Nat)), x6, x7, x8, x9] ∧ Same H3 H' ∧ ∀ (m : Nat) r, m < j → si.pairs[m]? = some r → fh i si r = none)
          ⟨x6, x7, x8, x9, rfl, Same.refl _, fun m r hm' => absurd hm' (Nat.not_lt_zero _)⟩ (fun j σ H' _ p => by
            obtain ⟨_, _, _, _, _, s4, _⟩ := p
            exact same_tup s4 gp) (fun j x σ H4 hx hp => ?_) (fun σ H4 hp => ?_)
        · obtain ⟨x6, x7, x8, x9, rfl, s4, bef⟩ := hp
          obtain ⟨pr, hpr, dpr⟩ := pairs_get dz hx
          obtain ⟨bp, rfl, gbp⟩ := pair_at (same_dp s4 _ _ dpr)
          refine ⟨bp, _, rfl, gbp, rfl, _, _, rfl, _, _, rfl, _, _, rfl, rfl, ?_⟩
          have hAL4 : SqL K H4 AL ((aliases S).map V.str) := SqL.of (s4 _ _ (s3 _ _ hl))
          have ma : pr.als ∈ aliases S := wf.al si (List.mem_of_getElem? hsi) pr (List.mem_of_getElem? hpr)
          refine ⟨.int (i : Nat), rfl, .ref AL, rfl, .inl ⟨rfl, _, hAL4⟩, .str pr.als, rfl, AL, aliases S, pr.als, rfl, rfl, hAL4, ma, by show 2 ≤ sizeLine; decide, fun T2 hT2 => ?_⟩
          have s5 : Same H3 (upd H4 T2 (.tup [.int (i : Nat), .int ((aliases S).idxOf pr.als : Nat)])) := s4.trans (same_new hT2)
          have hTT : (upd H4 T2 (.tup [.int (i : Nat), .int ((aliases S).idxOf pr.als : Nat)])) T2 = some (.tup [.int (i : Nat), .int ((aliases S).idxOf pr.als : Nat)]) := upd_same
          generalize upd H4 T2 (.tup [.int (i : Nat), .int ((aliases S).idxOf pr.als : Nat)]) = H5 at s5 hTT
          have gT : SqT K H5 T2 [.int (i : Nat), vN ((aliases S).idxOf pr.als)] := SqT.of hTT
          have hO5 : SqT K H5 o (ahead.map vN) := same_tup ((sm.trans s3).trans s5) hO
          have nx : fh i si pr = none → ∀ (m : Nat) r, m < j + 1 → si.pairs[m]? = some r → fh i si r = none := fun e m r hm' hr => by
            by_cases em : m = j
            · rw [em, hpr] at hr
              cases hr
              exact e
            · exact bef m r (by omega) hr
          have found : ∀ z, fh i si pr = some z → lawLink S n ahead = some z := fun z hz => by
            rw [elk]
            exact firstHit_at hsi hpr (by rw [Nat.zero_add]; exact hz) (fun k' t hk ht r hr => by rw [Nat.zero_add]; exact before k' t hk ht r hr) fun m r hm' hr => by rw [Nat.zero_add]; exact bef m r hm' hr
          have efh : fh i si pr = lawHit n ahead (aliases S) i si pr := by rw [hf]
          have out1 : ∀ x y z, fh i si pr = some ⟨x, y, z⟩ → ∀ T, H5 T = none → Q (.ref T) (upd H5 T (.tup [.str x, .str y, .str z])) := fun x y z hz T hT => by
            refine q _ _ (((sm.trans s3).trans s5).trans (same_new hT)) ?_
            rw [found _ hz]
            exact dp_new upd_same (.cons (.str _) (.cons (.str _) (.cons (.str _) .nil)))
          have gi5 := same_tup s5 gi
          have second : ¬ (i = n ∧ (aliases S).idxOf pr.als ∈ ahead) → (tIfS (tAnd (tTest (tOp rEq (tOp (rIxT K) (tVar 9) (tC (.int 1))) (tVar 1))) (tTest (tOp (rIn K false) (tOp (rIxT K) (tVar 9) (tC (.int 0))) (tVar 2)))) (tRet (tTup (tCons (tVar 8) (tCons (tOp (rIxT K) (tVar 3) (tC (.int 1))) (tCons (tVar 6) tNil))))) tNext)
              { nx := fun σ H' => ∃ x6 x7 x8 x9, σ = [some (.ref a), some (vN n), some (.ref o), some (.ref bi), some (.ref AL), some (.int (i : Nat)), x6, x7, x8, x9] ∧ Same H3 H' ∧ ∀ (m : Nat) r, m < j + 1 → si.pairs[m]? = some r → fh i si r = none, rt := Q }
              [some (.ref a), some (vN n), some (.ref o), some (.ref bi), some (.ref AL), some (.int (i : Nat)), some (.str pr.own), some (.str pr.als), some (.str pr.col), some (.ref T2)] H5 := fun ne => by
            refine ⟨.ref T2, rfl, T2, _, 1, vN ((aliases S).idxOf pr.als), rfl, rfl, gT, atI_nat (j := 1) rfl, vN n, rfl, rfl, _, rfl, ?_⟩
            rw [show decide (vN ((aliases S).idxOf pr.als) = vN n) = decide ((aliases S).idxOf pr.als = n) from dec_nat _ n]
            refine ite2 (fun c1 => ?_) (fun c1 => ?_)
            · have c1' : (aliases S).idxOf pr.als = n := of_decide_eq_true c1
              refine ⟨.ref T2, rfl, T2, _, 0, vN i, rfl, rfl, gT, atI_nat (j := 0) rfl, .ref o, rfl, o, _, rfl, .inr hO5, rfl, flat_nat _, _, rfl, ?_⟩
              rw [inV_nat]
              refine ite2 (fun c2 => ?_) (fun c2 => ?_)
              · have c2' : i ∈ ahead := by simpa using c2
                have hz : fh i si pr = some ⟨pr.col, si.name, pr.own⟩ := by
                  rw [efh]
                  unfold lawHit
                  rw [if_neg ne, if_pos ⟨c1', c2'⟩]
                refine ⟨_, rfl, .ref bi, rfl, bi, _, 1, .str si.name, rfl, rfl, gi5, atI_nat (j := 1) rfl, _, rfl, by show 3 ≤ sizeLine; decide, fun T hT => ?_⟩
                exact out1 _ _ _ hz T hT
              · have c2' : ¬ i ∈ ahead := by simpa using c2
                refine ⟨_, _, _, _, rfl, s5, nx ?_⟩
                rw [efh]
                unfold lawHit
                rw [if_neg ne, if_neg fun z => c2' z.2]
            · refine ⟨_, _, _, _, rfl, s5, nx ?_⟩
              rw [efh]
              unfold lawHit
              rw [if_neg ne, if_neg fun z => c1 (decide_eq_true z.1)]
          refine ⟨.ref T2, rfl, T2, _, 0, vN i, rfl, rfl, gT, atI_nat (j := 0) rfl, vN n, rfl, rfl, _, rfl, ?_⟩
          rw [show decide (vN i = vN n) = decide (i = n) from dec_nat i n]
          refine ite2 (fun c1 => ?_) (fun c1 => ?_)
          · have c1' : i = n := of_decide_eq_true c1
            refine ⟨.ref T2, rfl, T2, _, 1, vN ((aliases S).idxOf pr.als), rfl, rfl, gT, atI_nat (j := 1) rfl, .ref o, rfl, o, _, rfl, .inr hO5, rfl, flat_nat _, _, rfl, ?_⟩
            rw [inV_nat]
            refine ite2 (fun c2 => ?_) (fun c2 => ?_)
            · have c2' : (aliases S).idxOf pr.als ∈ ahead := by simpa using c2
              have hz : fh i si pr = some pr := by
                rw [efh]
                unfold lawHit
                rw [if_pos ⟨c1', c2'⟩]
              refine ⟨_, rfl, _, rfl, _, rfl, by show 3 ≤ sizeLine; decide, fun T hT => ?_⟩
              exact out1 pr.own pr.als pr.col hz T hT
            · have c2' : ¬ (aliases S).idxOf pr.als ∈ ahead := by simpa using c2
              exact second fun z => c2' z.2
          · exact second fun z => c1 (decide_eq_true z.1)
        · obtain ⟨x6, x7, x8, x9, rfl, s4, bef⟩ := hp
          refine ⟨_, _, x6, x7, x8, x9, rfl, s3.trans s4, fun k' t hk ht r hr => ?_⟩
          by_cases ek : k' = i
          · rw [ek, hsi] at ht
            cases ht
            obtain ⟨m, hm', er⟩ := List.getElem_of_mem hr
            have zl : zs.length = si.pairs.length := by rw [dpAll_len dz, List.length_map]
            rw [ek]
            exact bef m r (by omega) (by rw [List.getElem?_eq_getElem hm', er])
          · exact before k' t (by omega) ht r hr
      · obtain ⟨x3, x5, x6, x7, x8, x9, rfl, s2, before⟩ := hp
        refine q H2 .non (sm.trans s2) ?_
        have e : lawLink S n ahead = none := by
          rw [elk]
          exact firstHit_none S 0 fun k' t ht p hp => by
            rw [Nat.zero_add]
            exact before k' t (by rw [h4]; exact (List.getElem?_eq_some_iff.mp ht).1) ht p hp
        rw [e]
        rfl
end
end K19

namespace K19
open PySem PySem.Spec PyProof.Rows L2
/-! ### shapes and sizes of data -/
structure Shp (n : Nat) (d : PyData) : Prop where
  lay : d.canLay0 = true
  dep : d.depth ≤ n
structure Fine (n b : Nat) (d : PyData) : Prop where
  shp : Shp n d
  lvs : d.leavesShort 13 = true
  vis : d.showable = true
  blk : d.bulk ≤ b
theorem Shp.shaped {n : Nat} {d : PyData} (h : Shp n d) (hn : n ≤ 64) : SeqAt.shaped d = true := by
  show (d.canLay0 && decide (d.depth ≤ 64)) = true
  rw [h.lay, Bool.true_and]
  exact decide_eq_true (Nat.le_trans h.dep hn)
theorem Shp.refl {n : Nat} {d : PyData} (h : Shp n d) : PyData.eqv d d = true := SeqAt.eqv_refl d h.lay
theorem Shp.mono {n m : Nat} {d : PyData} (h : Shp n d) (hn : n ≤ m) : Shp m d := ⟨h.lay, Nat.le_trans h.dep hn⟩
theorem Shp.int (i : Int) : Shp 0 (.int i) := ⟨rfl, Nat.le_refl _⟩
theorem shp_all {n : Nat} : ∀ {ds : List PyData}, (∀ d ∈ ds, Shp n d) → PyData.canLayAll0 ds = true ∧ PyData.depthAll ds ≤ n
  | [], _ => ⟨rfl, Nat.zero_le _⟩
  | d :: ds, h => by
    obtain ⟨h1, h2⟩ := shp_all fun e he => h e (List.mem_cons_of_mem _ he)
    obtain ⟨h3, h4⟩ := h d List.mem_cons_self
    exact ⟨by simp [PyData.canLayAll0, h3, h1], by simp only [PyData.depthAll]; omega⟩
theorem Shp.tup {n : Nat} {ds : List PyData} (h : ∀ d ∈ ds, Shp n d) : Shp (n + 1) (.tuple ds) := by
  obtain ⟨h1, h2⟩ := shp_all h
  exact ⟨by simp only [PyData.canLay0]; exact h1, by simp only [PyData.depth]; omega⟩
theorem Shp.lst {n : Nat} {ds : List PyData} (h : ∀ d ∈ ds, Shp n d) : Shp (n + 1) (.list ds) := by
  obtain ⟨h1, h2⟩ := shp_all h
  exact ⟨by simp only [PyData.canLay0]; exact h1, by simp only [PyData.depth]; omega⟩
theorem str_lay {x : Str} (h : ∀ c ∈ x.cps.toList, c < 128) : (PyData.str x).canLay0 = true := by
  simp only [PyData.canLay0]
  unfold PyData.strOk
  rw [← Array.all_toList, List.all_eq_true]
  intro c hc
  have := h c hc
  exact decide_eq_true (by omega)
theorem str_lvs {x : Str} (h : ∀ c ∈ x.cps.toList, c < 128) : (PyData.str x).leavesShort 13 = true := by
  simp only [PyData.leavesShort, List.all_eq_true, decide_eq_true_eq]
  intro c hc
  have := h c hc
  omega
theorem Shp.str {x : Str} (h : Sh x) : Shp 0 (.str x) := ⟨str_lay h.2, Nat.le_refl _⟩
theorem Fine.str {x : Str} (h : Sh x) : Fine 0 8 (.str x) := ⟨Shp.str h, str_lvs h.2, rfl, h.1⟩
theorem Fine.mono {n m b c : Nat} {d : PyData} (h : Fine n b d) (hn : n ≤ m) (hb : b ≤ c) : Fine m c d := ⟨h.shp.mono hn, h.lvs, h.vis, Nat.le_trans h.blk hb⟩
theorem Fine.non : Fine 0 8 .none := ⟨⟨rfl, Nat.le_refl _⟩, rfl, rfl, Nat.zero_le _⟩
theorem Fine.bl (b : Bool) : Fine 0 8 (.bool b) := ⟨⟨rfl, Nat.le_refl _⟩, rfl, rfl, Nat.zero_le _⟩
theorem int_small : ∀ i : Nat, i ≤ 100 → (PyData.int (i : Int)).leavesShort 13 = true ∧ (PyData.int (i : Int)).showable = true := by decide +kernel
theorem Fine.int {i : Nat} (h : i ≤ 100) : Fine 0 8 (.int (i : Int)) := ⟨Shp.int _, (int_small i h).1, (int_small i h).2, Nat.zero_le _⟩
theorem fine_all {n b : Nat} : ∀ {ds : List PyData}, (∀ d ∈ ds, Fine n b d) → PyData.leavesShortAll 13 ds = true ∧ PyData.showableAll ds = true ∧ PyData.bulkAll ds ≤ (b + 1) * ds.length
  | [], _ => ⟨rfl, rfl, Nat.zero_le _⟩
  | d :: ds, h => by
    obtain ⟨h1, h2, h3⟩ := fine_all fun e he => h e (List.mem_cons_of_mem _ he)
    obtain ⟨_, h4, h5, h6⟩ := h d List.mem_cons_self
    refine ⟨by simp [PyData.leavesShortAll, h4, h1], by simp [PyData.showableAll, h5, h2], ?_⟩
    simp only [PyData.bulkAll, List.length_cons]
    rw [Nat.mul_add, Nat.mul_one]
    omega
theorem Fine.tup {n b c : Nat} {ds : List PyData} (h : ∀ d ∈ ds, Fine n b d) (hc : (b + 1) * ds.length ≤ c) : Fine (n + 1) c (.tuple ds) := by
  obtain ⟨h1, h2, h3⟩ := fine_all h
  exact ⟨Shp.tup fun d hd => (h d hd).shp, by simp only [PyData.leavesShort]; exact h1, by simp only [PyData.showable]; exact h2, by simp only [PyData.bulk]; omega⟩
/-- all that repr asks -/
theorem Fine.repr {n b : Nat} {d : PyData} (h : Fine n b d) (hn : n ≤ 60) (hb : b ≤ 2 ^ 20) : d.showable = true ∧ d.hasDict = false ∧ d.depth ≤ 60 ∧ d.shown.length ≤ sizeLine :=
  ⟨h.vis, PyData.hasDict_of_canLay d h.shp.lay, Nat.le_trans h.shp.dep hn, PyData.shown_fits_bulk (by decide) (by decide) h.lvs (Nat.le_trans h.blk hb)⟩
theorem two_le {b m : Nat} (hm : m ≤ 5) : (b + 1) * m ≤ (b + 1) * 5 := Nat.mul_le_mul_left _ hm

theorem fine_pair {p : Pr Str} (h : ShP p) : Fine 1 27 (pairD p) := Fine.tup (n := 0) (b := 8) (fun d hd => by
  rcases List.mem_cons.mp hd with e | hd
  · subst e
    exact Fine.str h.1
  · rcases List.mem_cons.mp hd with e | hd
    · subst e
      exact Fine.str h.2.1
    · rw [List.mem_singleton.mp hd]
      exact Fine.str h.2.2) (Nat.le_refl _)
theorem fine_pairs {l : List (Pr Str)} (h : ∀ p ∈ l, ShP p) (hl : l.length ≤ 2) : Fine 2 56 (.tuple (l.map pairD)) := Fine.tup (n := 1) (b := 27) (fun d hd => by
  obtain ⟨p, hp, rfl⟩ := List.mem_map.mp hd
  exact fine_pair (h p hp)) (by
  rw [List.length_map]
  exact Nat.mul_le_mul_left 28 hl)
theorem fine_src {s : Sr} (h : ShS s) : Fine 3 228 (srcD s) := Fine.tup (n := 2) (b := 56) (fun d hd => by
  rcases List.mem_cons.mp hd with e | hd
  · subst e
    exact (Fine.str h.way).mono (by decide) (by decide)
  · rcases List.mem_cons.mp hd with e | hd
    · subst e
      exact (Fine.str h.name).mono (by decide) (by decide)
    · rcases List.mem_cons.mp hd with e | hd
      · subst e
        exact (Fine.str h.table).mono (by decide) (by decide)
      · rw [List.mem_singleton.mp hd]
        exact fine_pairs h.pairs h.many) (Nat.le_refl _)
theorem fine_srcs {S : List Sr} (h : ∀ s ∈ S, ShS s) (hl : S.length ≤ 5) : Fine 4 1145 (.tuple (S.map srcD)) := Fine.tup (n := 3) (b := 228) (fun d hd => by
  obtain ⟨s, hs, rfl⟩ := List.mem_map.mp hd
  exact fine_src (h s hs)) (by
  rw [List.length_map]
  exact Nat.mul_le_mul_left 229 hl)
/-! ### orders as data -/
def iD (n : Nat) : PyData := .int (n : Int)
def ordD (o : List Nat) : PyData := .tuple (o.map iD)
theorem tupy_ord (o : List Nat) : tupy (ordD o) = true := tupyAll_map o fun _ _ => rfl
theorem shp_ord (o : List Nat) : Shp 1 (ordD o) := Shp.tup fun d hd => by
  obtain ⟨n, _, rfl⟩ := List.mem_map.mp hd
  exact Shp.int _
theorem dpInts {K : PySem.W.Frag} {H : Hp} : ∀ {o : List Nat} {vs : List V}, DpAll K H vs (o.map iD) → vs = o.map vN
  | [], _, h => by cases h; rfl
  | n :: o, _, h => by
    cases h with
    | cons h1 h2 => rw [dp_int h1, dpInts h2]; rfl
theorem intsDp {K : PySem.W.Frag} {H : Hp} : ∀ (o : List Nat), DpAll K H (o.map vN) (o.map iD)
  | [] => .nil
  | n :: o => .cons (.int _) (intsDp o)
theorem ord_at {K : PySem.W.Frag} {H : Hp} {v : V} {o : List Nat} (h : Dp K H v (ordD o)) : ∃ t, v = .ref t ∧ SqT K H t (o.map vN) := by
  obtain ⟨t, xs, e, h1, h2⟩ := dp_tup h
  rw [dpInts h2] at h1
  exact ⟨t, e, h1⟩
end K19

namespace K19
open PySem PySem.Spec PyProof.Rows L2
theorem Bare.tk {H H' : Hp} {a : Addr} (s : TK H H') (b : Bare H a) : Bare H' a := by
  obtain ⟨o, xs, h, d⟩ := b
  exact ⟨o, xs, (s a).2 _ _ h, d⟩
/-- all are bare tuples -/
def Bares (H : Hp) (as : List V) : Prop := ∀ v ∈ as, ∃ t, v = .ref t ∧ Bare H t
theorem Bares.tk {H H' : Hp} {as : List V} (s : TK H H') (b : Bares H as) : Bares H' as := fun v hv => by
  obtain ⟨t, e, h⟩ := b v hv
  exact ⟨t, e, h.tk s⟩
theorem Bares.append {H : Hp} {as bs : List V} (a : Bares H as) (b : Bares H bs) : Bares H (as ++ bs) := fun v hv => (List.mem_append.mp hv).elim (a v) (b v)
theorem Bares.one {H : Hp} {t : Addr} (b : Bare H t) : Bares H [.ref t] := fun v hv => ⟨t, List.mem_singleton.mp hv, b⟩
theorem Bares.nil (H : Hp) : Bares H [] := fun _ h => nomatch h
theorem dp_frz {K : PySem.W.Frag} {H : Hp} {p : Addr} {o : Obj} {vs : List V} {ds : List PyData} (h : H p = some (.frz o (.tup vs))) (g : DpAll K H vs ds) : Dp K H (.ref p) (.tuple ds) := .tup (sqT_frz h) g
abbrev nOrders : List Str := ["numbers", "found", "number", "one", "rest"]
theorem scOrders : FnScope nOrders ["numbers"] (defScope sOrders) := ⟨rfl, rfl, rfl, by decide +kernel, rfl, by decide +kernel, by decide +kernel⟩
theorem orders_len : ∀ (k : Nat) (l : List Nat), l.length ≤ 5 → (orders k l).length ≤ 5 ^ k
  | 0, _, _ => Nat.le_refl _
  | k + 1, [], _ => Nat.pos_of_ne_zero (by simp)
  | k + 1, x :: r, h => by
    have key : ∀ m : List Nat, (m.flatMap fun n => (orders k ((x :: r).filter fun m => !decide (m = n))).map fun o => n :: o).length ≤ m.length * 5 ^ k := by
      intro m
      induction m with
      | nil => exact Nat.zero_le _
      | cons y m ih =>
        rw [List.flatMap_cons, List.length_append, List.length_map, List.length_cons, Nat.succ_mul]
        have := orders_len k ((x :: r).filter fun m => !decide (m = y)) (Nat.le_trans (List.length_filter_le _ _) h)
        omega
    have h1 := key (x :: r)
    have h2 : (x :: r).length * 5 ^ k ≤ 5 * 5 ^ k := Nat.mul_le_mul_right _ h
    show ((x :: r).flatMap fun n => (orders k ((x :: r).filter fun m => !decide (m = n))).map fun o => n :: o).length ≤ 5 ^ (k + 1)
    rw [Nat.pow_succ]
    omega
def spOrders (K : PySem.W.Frag) (kk : Nat) : Sp := fun vs H Q _ => ∃ (l : Addr) (ns : List Nat), vs = [.ref l] ∧ SqL K H l (ns.map vN) ∧ ns.Nodup ∧ ns.length ≤ kk ∧
  ∀ H' p as, Same H H' → H p = none → H' p = some (.lst as) → DpAll K H' as ((orders kk ns).map ordD) → Bares H' as → Q (.ref p) H'
section
variable {P : Program} {w : World} {K : PySem.W.Frag} {mg : Str → Option Value} {base : Heap}
theorem dec_neN (i n : Nat) : (!decide (vN i = vN n)) = !decide (i = n) := by
  rw [show decide (vN i = vN n) = decide (i = n) from dec_nat i n]
theorem ok_orders {f : Addr} {fd : FuncData} (F : Fun K "orders_of" "orders_of" sOrders f fd) (b : Binds K fd ["numbers"] []) (g : mg "orders_of" = some (.ref f)) : ∀ kk : Nat, kk ≤ 5 → FnOk P w K mg base CX0 (kk + 1) f fd ["numbers"] (spOrders K kk)
  | 0, _ => by
    refine F.ok scOrders (fun vs H Q E h => ?_) (fun cdv A outer s H vs Q E hr h => ?_)
    · obtain ⟨l, ns, rfl, _⟩ := h
      rfl
    · obtain ⟨l, ns, rfl, hL, nd, hl, q⟩ := h
      refine ⟨_, pss_cons (ps_if (pt_cmpR (op_eqD hr.units) (pv 0) (pe_lst pa_nil) (nomark _)) (pss_one (ps_ret (pe_lst (pa_cons (pe_tupF pa_nil) pa_nil)))) pss_nil) pss_never, ?_⟩
      have e : ns = [] := List.length_eq_zero_iff.mp (Nat.le_zero.mp hl)
      subst e
      refine ⟨.ref l, rfl, Nat.zero_le _, fun E hE => ?_⟩
      have sE : Same H (upd H E (.lst [])) := same_new hE
      refine ⟨.list [], .list [], .lst (sE.seq hL) .nil, .lst (SqL.of upd_same) .nil, by decide, by decide, _, rfl, ?_⟩
      refine iteT ?_
      refine ⟨Nat.zero_le _, fun T o hT ho => ⟨by show 1 ≤ sizeLine; decide, fun p hp => ?_⟩⟩
      have nTp : T ≠ p := ne_of_none upd_same hp
      have hp0 : H p = none := (sE.trans (same_new hT)).free hp
      have hTT := same_new (o := .lst [.ref T]) hp T _ upd_same
      exact q _ p [.ref T] ((sE.trans (same_new hT)).trans (same_new hp)) hp0 upd_same (.cons (dp_frz (vs := []) hTT .nil) .nil) (Bares.one ⟨o, [], hTT, ho⟩)
  | kk + 1, hkk => by
    have GR := ok_orders F b g kk (by omega)
    refine F.ok scOrders (fun vs H Q E h => ?_) (fun cdv A outer s H vs Q E hr h => ?_)
    · obtain ⟨l, ns, rfl, _⟩ := h
      rfl
    · obtain ⟨l, ns, rfl, hL, nd, hl, q⟩ := h
      refine ⟨_, pss_cons (ps_if (pt_cmpR (op_eqD hr.units) (pv 0) (pe_lst pa_nil) (nomark _)) (pss_one (ps_ret (pe_lst (pa_cons (pe_tupF pa_nil) pa_nil)))) pss_nil)
        (pss_cons (ps_set (i := 1) scOrders.nd rfl (.inl rfl) (pe_lst pa_nil))
        (pss_cons (ps_for PassesOwn.never rfl (pi_list (pv 0)) (pg_name (i := 2) scOrders.nd rfl (Or.inr rfl))
          (pss_one (ps_expr (pe_bm PySem.F.plainAttrs_list PySem.F.slot_list_extend PySem.F.type_list_extend mt_extend (pv 1) (pa_cons
            (pe_lc (own := [("rest", 4)]) (g := gName 4) (tt := tYes) (te := tOp (rCatF K) (tTupF (tCons (tVar 2) tNil)) (tVar 4)) rfl scOrders.nd
              (pi_list (pe_call GR hr (by rfl) g F.kp b .nil pass0 (pa_cons (pe_lc (own := [("one", 3)]) (g := gName 3) (tt := tTest (tOp rNe (tVar 3) (tVar 2))) (te := tVar 3) rfl scOrders.nd (pi_list (pv 0))
                  (blkOk_by (own := [("one", 3)]) (N := nOrders) (sc := defScope sOrders) (by decide +kernel))
                  (fun _ _ _ _ _ => pg_name (i := 3) scOrders.nd rfl (Or.inl rfl)) (fun _ _ _ _ _ => pts_one (pt_cmpR op_ne (pv 3) (pv 2) (nomark _))) (fun _ _ _ _ _ => pv 3)) pa_nil)))
              (blkOk_by (own := [("rest", 4)]) (N := nOrders) (sc := defScope sOrders) (by decide +kernel))
              (fun _ _ _ _ _ => pg_name (i := 4) scOrders.nd rfl (Or.inl rfl)) (fun _ _ _ _ _ => pts_nil) (fun _ _ _ _ _ => pe_op op_catF (pe_tupF (pa_cons (pv 2) pa_nil)) (pv 4))) pa_nil)))))
        (pss_one (ps_ret (pv 1))))), ?_⟩
      refine ⟨.ref l, rfl, Nat.zero_le _, fun E hE => ?_⟩
      have sE : Same H (upd H E (.lst [])) := same_new hE
      refine ⟨.list (ns.map iD), .list [], .lst (sE.seq hL) (intsDp ns), .lst (SqL.of upd_same) .nil, (Shp.lst (n := 0) fun d hd => by
        obtain ⟨n, _, rfl⟩ := List.mem_map.mp hd
        exact Shp.int _).shaped (by decide), by decide, _, rfl, ?_⟩
      cases ns with
      | nil =>
        refine iteT ?_
        refine ⟨Nat.zero_le _, fun T o hT ho => ⟨by show 1 ≤ sizeLine; decide, fun p hp => ?_⟩⟩
        have nTp : T ≠ p := ne_of_none upd_same hp
        have hp0 : H p = none := (sE.trans (same_new hT)).free hp
        have hTT := same_new (o := .lst [.ref T]) hp T _ upd_same
        exact q _ p [.ref T] ((sE.trans (same_new hT)).trans (same_new hp)) hp0 upd_same (.cons (dp_frz (vs := []) hTT .nil) .nil) (Bares.one ⟨o, [], hTT, ho⟩)
      | cons x r =>
        refine iteF ?_
        generalize hH1 : upd H E (.lst []) = H1 at sE
        -- found = []
        refine ⟨Nat.zero_le _, fun FO hFO => ?_⟩
        have sF : Same H1 (upd H1 FO (.lst [])) := same_new hFO
        have fFO : H FO = none := sE.free hFO
        refine ⟨.ref l, rfl, l, rfl, ⟨_, (sE.trans sF).seq hL⟩, ?_⟩
        refine for_list (K := K) (a := l) (xs := (x :: r).map vN) (fun i σ H' => ∃ x2 x3 x4 as, σ = [some (.ref l), some (.ref FO), x2, x3, x4] ∧ Same H1 H' ∧ H' FO = some (.lst as) ∧
            DpAll K H' as ((((x :: r).take i).flatMap fun n => (orders kk ((x :: r).filter fun m => !decide (m = n))).map fun o => n :: o).map ordD) ∧ as.length ≤ i * 5 ^ kk ∧ Bares H' as)
          ⟨none, none, none, [], rfl, sF, upd_same, .nil, Nat.zero_le _, Bares.nil _⟩ (fun i σ H' _ p => by
            obtain ⟨_, _, _, _, _, s2, _⟩ := p
            exact (sE.trans s2).seq hL) (fun i y σ H2 hx hp => ?_) (fun σ H2 hp => ?_)
        · obtain ⟨x2, x3, x4, as, rfl, s2, hFO2, dat, asl, bas⟩ := hp
          rw [List.getElem?_map] at hx
          obtain ⟨n, hn1, hn2⟩ := Option.map_eq_some_iff.mp hx
          subst hn2
          have il : i < (x :: r).length := (List.getElem?_eq_some_iff.mp hn1).1
          have nm : n ∈ x :: r := List.mem_of_getElem? hn1
          obtain ⟨fl1, fl2⟩ := filter_len nd nm
          refine ⟨.ref FO, rfl, .inl ⟨rfl, _, SqL.of hFO2⟩, ?_⟩
          -- the others
          refine ⟨.ref l, rfl, l, rfl, ⟨_, (sE.trans s2).seq hL⟩, fun C hC => ?_⟩
          refine lc_list (K := K) (a := l) (xs := (x :: r).map vN) (fun j H' => Same H2 H' ∧ H' C = some (.lst ((((x :: r).take j).filter fun m => !decide (m = n)).map vN))) ⟨same_new hC, upd_same⟩ (fun j H' _ p => ((sE.trans s2).trans p.1).seq hL) (fun j y H3 hy hp => ?_) (fun H3 hp => ?_)
          · obtain ⟨s3, hC3⟩ := hp
            rw [List.getElem?_map] at hy
            obtain ⟨m, hm1, hm2⟩ := Option.map_eq_some_iff.mp hy
            subst hm2
            have ht : (x :: r).take (j + 1) = (x :: r).take j ++ [m] := by
              rw [List.take_add_one, hm1]
              rfl
            refine ⟨rfl, vN m, rfl, vN n, rfl, rfl, _, rfl, ?_⟩
            rw [dec_neN]
            refine ite2 (fun c => ?_) (fun c => ?_)
            · refine ⟨vN m, rfl, _, hC3, ?_, same_over hC s3, ?_⟩
              · rw [List.length_map]
                have l1 := List.length_filter_le (fun m => !decide (m = n)) ((x :: r).take j)
                have l2 : ((x :: r).take j).length ≤ (x :: r).length := by rw [List.length_take]; omega
                exact small1000 (by omega)
              · rw [upd_same, ht, List.filter_append, List.map_append, List.filter_cons, if_pos c]
                rfl
            · refine ⟨s3, ?_⟩
              rw [hC3, ht, List.filter_append, List.filter_cons, if_neg c, List.filter_nil, List.append_nil]
          · obtain ⟨s3, hC3⟩ := hp
            rw [List.length_map, List.take_length] at hC3
            -- their orders
            refine ⟨C, _, rfl, SqL.of hC3, nd.filter _, by omega, fun H4 p' bs s4 fp hp' db bbs => ?_⟩
            refine ⟨p', rfl, ⟨_, SqL.of hp'⟩, fun D hD => ?_⟩
            have bl : bs.length = (orders kk ((x :: r).filter fun m => !decide (m = n))).length := by rw [dpAll_len db, List.length_map]
            have ol := orders_len kk ((x :: r).filter fun m => !decide (m = n)) (by omega)
            have pw : 5 ^ kk ≤ 625 := Nat.pow_le_pow_right (n := 5) (by decide) (show kk ≤ 4 by omega)
            generalize hO : orders kk ((x :: r).filter fun m => !decide (m = n)) = os at db bl ol
            refine lc_list (K := K) (a := p') (xs := bs) (fun j H' => ∃ cs, Same H4 H' ∧ H' D = some (.lst cs) ∧ DpAll K H' cs (((os.take j).map fun o => n :: o).map ordD) ∧ Bares H' cs) ⟨[], same_new hD, upd_same, .nil, Bares.nil _⟩ (fun j H' _ p => by
              obtain ⟨_, s5, _⟩ := p
              exact s5.seq (SqL.of hp')) (fun j y H5 hy hp => ?_) (fun H5 hp => ?_)
            · obtain ⟨cs, s5, hD5, dc, bcs⟩ := hp
              have jl : j < os.length := by
                rw [← bl]
                exact (List.getElem?_eq_some_iff.mp hy).1
              obtain ⟨v', hv1, hv2⟩ := dpAll_get (i := j) (d := ordD os[j]) db (by rw [List.getElem?_map, List.getElem?_eq_getElem jl]; rfl)
              rw [hy] at hv1
              cases hv1
              obtain ⟨t, rfl, gt⟩ := ord_at (same_dp s5 _ _ hv2)
              have cl : cs.length = j := by
                rw [dpAll_len dc, List.length_map, List.length_map, List.length_take]
                omega
              have ht : os.take (j + 1) = os.take j ++ [os[j]] := by
                rw [List.take_add_one, List.getElem?_eq_getElem jl]
                rfl
              refine ⟨rfl, vN n, rfl, by show 1 ≤ sizeLine; decide, fun T oT hT hoT => ?_⟩
              have s6 : Same H5 (upd H5 T (.frz oT (.tup [vN n]))) := same_new hT
              have fin : ∀ (H6 : Hp) (v : V), Same H5 H6 → Dp K H6 v (ordD (n :: os[j])) → Bares H6 [v] → ∃ acc, H6 D = some (.lst acc) ∧ acc.length < sizeLine ∧ ∃ cs', Same H4 (upd H6 D (.lst (acc ++ [v]))) ∧ (upd H6 D (.lst (acc ++ [v]))) D = some (.lst cs') ∧ DpAll K (upd H6 D (.lst (acc ++ [v]))) cs' (((os.take (j + 1)).map fun o => n :: o).map ordD) ∧ Bares (upd H6 D (.lst (acc ++ [v]))) cs' := fun H6 v s7 dv bv => by
                have tk : TK H6 (upd H6 D (.lst (cs ++ [v]))) := TK.of_btp btp_upd (s7 _ _ hD5)
                refine ⟨cs, s7 _ _ hD5, by rw [cl]; exact small1000 (by omega), cs ++ [v], same_over hD (s5.trans s7), upd_same, ?_, ((bcs.tk (TK.of_same s7)).append bv).tk tk⟩
                rw [ht, List.map_append, List.map_append]
                refine dpAll_append (tk_dpAll tk _ _ (tupyAll_map _ fun z hz => ?_) (same_dpAll s7 _ _ dc)) (.cons (tk_dp tk _ _ (tupy_ord _) dv) .nil)
                exact tupy_ord z
              refine ⟨.ref t, rfl, T, t, [vN n], os[j].map vN, rfl, rfl, sqT_frz upd_same, same_tup s6 gt, (fun z => by cases z), ?_, fun z => ?_, fun z p2 o2 hp2 ho2 => ?_⟩
              · rw [List.length_map]
                have o1 : os[j] ∈ orders kk ((x :: r).filter fun m => !decide (m = n)) := by rw [hO]; exact List.getElem_mem jl
                have o2 := (orders_perm kk _ (nd.filter _) (by omega) _ o1).length_eq
                show 1 + os[j].length ≤ sizeLine
                exact Nat.le_of_lt (small1000 (by omega))
              · refine fin _ _ s6 ?_ (Bares.one ⟨oT, _, upd_same, hoT⟩)
                have e0 : os[j] = [] := List.map_eq_nil_iff.mp z
                rw [e0]
                exact dp_frz upd_same (.cons (.int _) .nil)
              · refine fin _ _ (s6.trans (same_new hp2)) ?_ (Bares.one ⟨o2, _, upd_same, ho2⟩)
                exact dp_frz upd_same (.cons (.int _) (intsDp os[j]))
            · obtain ⟨cs, s5, hD5, dc, bcs⟩ := hp
              rw [bl, List.take_length] at dc
              have cl : cs.length = os.length := by rw [dpAll_len dc, List.length_map, List.length_map]
              have nDF : FO ≠ D := ne_of_none (s4 _ _ (s3 _ _ hFO2)) hD
              have hFO5 : H5 FO = some (.lst as) := s5 _ _ (s4 _ _ (s3 _ _ hFO2))
              have tk : TK H5 (upd H5 FO (.lst (as ++ cs))) := TK.of_btp btp_upd hFO5
              have i5 : i ≤ 4 := by omega
              have im : i * 5 ^ kk ≤ 4 * 625 := Nat.mul_le_mul i5 pw
              refine ⟨FO, D, as, cs, rfl, rfl, hFO5, hD5, ?_, ?_⟩
              · have sz : (10000 : Nat) ≤ sizeLine := by decide
                omega
              · refine ⟨_, x3, x4, as ++ cs, rfl, fun c u e => ?_, upd_same, ?_, ?_, ((bas.tk (TK.of_same ((s3.trans s4).trans s5))).append bcs).tk tk⟩
                · have nc : c ≠ FO := fun z => by
                    rw [z, hFO] at e
                    cases e
                  rw [upd_ne nc]
                  exact s5 c u (s4 c u (s3 c u (s2 c u e)))
                · have ht : (x :: r).take (i + 1) = (x :: r).take i ++ [n] := by
                    rw [List.take_add_one, hn1]
                    rfl
                  rw [ht, List.flatMap_append, List.map_append]
                  refine dpAll_append (tk_dpAll tk _ _ (tupyAll_map _ fun z _ => tupy_ord z) (same_dpAll ((s3.trans s4).trans s5) _ _ dat)) (tk_dpAll tk _ _ (tupyAll_map _ fun z _ => tupy_ord z) ?_)
                  rw [List.flatMap_cons, List.flatMap_nil, List.append_nil, hO]
                  exact dc
                · rw [List.length_append, Nat.succ_mul, cl]
                  omega
        · obtain ⟨x2, x3, x4, as, rfl, s2, hFO2, dat, asl, bas⟩ := hp
          rw [List.length_map, List.take_length] at dat
          exact ⟨.ref FO, rfl, q H2 FO as (sE.trans s2) fFO hFO2 dat bas⟩
end
end K19

namespace K19
open PySem PySem.Spec PyProof.Rows L2
/-! ### dicts of links -/
/-- a dict's entries, by the numbers, hold these links -/
def DkL (K : PySem.W.Frag) (H : Hp) (kvs : List (Key × V)) (L : List (Nat × Option (Pr Str))) : Prop := Paired (fun (p : Key × V) (q : Nat × Option (Pr Str)) => p.1 = Sum.inl ((q.1 : Nat) : Int) ∧ LinkV K H p.2 q.2) kvs L
section
variable {K : PySem.W.Frag} {H H' : Hp}
theorem tk_link (e : TK H H') {v : V} : ∀ {o : Option (Pr Str)}, LinkV K H v o → LinkV K H' v o
  | none, h => h
  | some p, h => tk_dp e _ _ (tupy_pair p) h
theorem tk_dkl (e : TK H H') : ∀ {kvs : List (Key × V)} {L : List (Nat × Option (Pr Str))}, DkL K H kvs L → DkL K H' kvs L
  | _, _, .nil => .nil
  | _, _, .cons h t => .cons ⟨h.1, tk_link e h.2⟩ (tk_dkl e t)
theorem dkl_snoc {n : Nat} {v : V} {o : Option (Pr Str)} (hv : LinkV K H v o) : ∀ {kvs : List (Key × V)} {L : List (Nat × Option (Pr Str))}, DkL K H kvs L → DkL K H (kvs ++ [(Sum.inl (n : Int), v)]) (L ++ [(n, o)])
  | _, _, .nil => .cons ⟨rfl, hv⟩ .nil
  | _, _, .cons h t => .cons h (dkl_snoc hv t)
theorem dkl_len : ∀ {kvs : List (Key × V)} {L : List (Nat × Option (Pr Str))}, DkL K H kvs L → kvs.length = L.length
  | _, _, .nil => rfl
  | _, _, .cons _ t => congrArg (· + 1) (dkl_len t)
theorem dkl_none {n : Nat} : ∀ {kvs : List (Key × V)} {L : List (Nat × Option (Pr Str))}, DkL K H kvs L → n ∉ L.map (·.1) → valV kvs (Sum.inl (n : Int)) = none
  | _, _, .nil, _ => rfl
  | _, _, @Paired.cons _ _ _ p q _ _ h t, hn => by
    have h1 : ¬ p.1 = Sum.inl (n : Int) := fun e => hn (by
      rw [h.1] at e
      have e2 : ((q.1 : Nat) : Int) = (n : Int) := Sum.inl.inj e
      have e3 : q.1 = n := by omega
      rw [← e3]
      exact List.mem_cons_self)
    rw [valV_neg h1]
    exact dkl_none t fun z => hn (List.mem_cons_of_mem _ z)
theorem dkl_get : ∀ {kvs : List (Key × V)} {L : List (Nat × Option (Pr Str))} {i : Nat} {k : Key} {v : V}, DkL K H kvs L → kvs[i]? = some (k, v) → ∃ n o, L[i]? = some (n, o) ∧ k = Sum.inl (n : Int) ∧ LinkV K H v o
  | _, _, _, _, _, .nil, e => by simp at e
  | _, _, 0, _, _, .cons h _, e => by
    cases e
    exact ⟨_, _, rfl, h.1, h.2⟩
  | _, _, i + 1, k, v, .cons _ t, e => by
    obtain ⟨n, o, h1, h2, h3⟩ := dkl_get (i := i) t (by simpa using e)
    exact ⟨n, o, by simpa using h1, h2, h3⟩
theorem fst_map {β : Type} (f : Nat → β) : ∀ ns : List Nat, (ns.map fun n => (n, f n)).map (·.1) = ns
  | [] => rfl
  | n :: r => by rw [List.map_cons, List.map_cons, fst_map f r]
/-- the links told, as data by the numbers -/
def linksD (L : List (Nat × Pr Str)) : List (Key × PyData) := L.map fun p => (Sum.inl ((p.1 : Nat) : Int), pairD p.2)
theorem dkd_snoc {k : Key} {v : V} {d : PyData} (hv : Dp K H v d) : ∀ {kvs : List (Key × V)} {L : List (Key × PyData)}, DkD K H kvs L → DkD K H (kvs ++ [(k, v)]) (L ++ [(k, d)])
  | _, _, .nil => .cons ⟨rfl, hv⟩ .nil
  | _, _, .cons h t => .cons h (dkd_snoc hv t)
theorem tk_dkd (e : TK H H') : ∀ {kvs : List (Key × V)} {L : List (Key × PyData)}, (∀ p ∈ L, tupy p.2 = true) → DkD K H kvs L → DkD K H' kvs L
  | _, _, _, .nil => .nil
  | _, _, ht, .cons h t => .cons ⟨h.1, tk_dp e _ _ (ht _ List.mem_cons_self) h.2⟩ (tk_dkd e (fun p hp => ht p (List.mem_cons_of_mem _ hp)) t)
theorem tupy_links (L : List (Nat × Pr Str)) : ∀ p ∈ linksD L, tupy p.2 = true := fun p hp => by
  obtain ⟨q, _, rfl⟩ := List.mem_map.mp hp
  exact tupy_pair q.2
theorem dkd_none {k : Key} : ∀ {kvs : List (Key × V)} {L : List (Key × PyData)}, DkD K H kvs L → k ∉ L.map (·.1) → valV kvs k = none
  | _, _, .nil, _ => rfl
  | _, _, @Paired.cons _ _ _ p q _ _ h t, hn => by
    have h1 : ¬ p.1 = k := fun e => hn (by
      rw [← e, h.1]
      exact List.mem_cons_self)
    rw [valV_neg h1]
    exact dkd_none t fun z => hn (List.mem_cons_of_mem _ z)
theorem links_key {L : List (Nat × Pr Str)} {n : Nat} (h : n ∉ L.map (·.1)) : (Sum.inl (n : Int) : Key) ∉ (linksD L).map (·.1) := fun hm => by
  obtain ⟨q, hq, e⟩ := List.mem_map.mp hm
  obtain ⟨r, hr, rfl⟩ := List.mem_map.mp hq
  have e2 : ((r.1 : Nat) : Int) = (n : Int) := Sum.inl.inj e
  have e3 : r.1 = n := by omega
  exact h (List.mem_map.mpr ⟨r, hr, e3⟩)
theorem links_nodup {L : List (Nat × Pr Str)} (h : (L.map (·.1)).Nodup) : ((linksD L).map (·.1)).Nodup := by
  unfold linksD
  rw [List.map_map]
  have e : ((fun x : Key × PyData => x.1) ∘ fun p : Nat × Pr Str => ((Sum.inl ((p.1 : Nat) : Int) : Key), pairD p.2)) = (fun n : Nat => (Sum.inl (n : Int) : Key)) ∘ fun p : Nat × Pr Str => p.1 := rfl
  rw [e, ← List.map_map, List.nodup_iff_pairwise_ne, List.pairwise_map]
  refine List.Pairwise.imp (fun {a b} hab e2 => ?_) (List.nodup_iff_pairwise_ne.mp h)
  have e3 : (a : Int) = (b : Int) := Sum.inl.inj e2
  exact hab (by omega)
end
/-- a dict comprehension over what is walked -/
theorem dc_it {J : It} {n : Nat} {G : Hp → Prop} {Y : Nat → Hp → V → Hp → Prop} (wk : Walk J n G Y) {g : TG} {tt : TT} {tk tv : TE} {vs : List Nat} {σ : L2.St} {H1 : Hp} {D : Addr} {Qd : Hp → Prop} (Pv : Nat → Hp → Prop) (h0 : Pv 0 (upd H1 D (.dK []))) (hG : ∀ i H, i ≤ n → Pv i H → G H)
    (hs : ∀ i x H H', i < n → Pv i H → Y i H x H' → g x (wipe σ vs) H' fun σ2 H2 => wipe σ2 vs = wipe σ vs ∧ tt σ2 H2 fun b H3 =>
      if b = true then tk σ2 H3 fun y H4 => tv σ2 H4 fun z H5 => ∃ kvs k, y = kV k ∧ H5 D = some (.dK kvs) ∧ kvs.length < sizeLine ∧ Pv (i + 1) (upd H5 D (.dK (putK kvs k z))) else Pv (i + 1) H3)
    (hd : ∀ H, Pv n H → Qd H) :
    ∃ W : Nat → Nat → Hp → Prop, (∃ m, W 0 m (upd H1 D (.dK []))) ∧ ∀ i m H, W i m H → (J.stop i H ∧ Qd H) ∨ (J.go i H ∧ ∃ Nx : Hp → Prop, (∀ H', Nx H' → ∃ m', m' < m ∧ W (i + 1) m' H') ∧
      ∀ x H', J.yld i H x H' → g x (wipe σ vs) H' fun σ2 H2 => wipe σ2 vs = wipe σ vs ∧ tt σ2 H2 fun b H3 =>
        if b = true then tk σ2 H3 fun y H4 => tv σ2 H4 fun z H5 => ∃ kvs k, y = kV k ∧ H5 D = some (.dK kvs) ∧ kvs.length < sizeLine ∧ Nx (upd H5 D (.dK (putK kvs k z))) else Nx H3) := by
  refine ⟨fun i m H => (m = n - i ∧ i ≤ n) ∧ Pv i H, ⟨n, ⟨rfl, Nat.zero_le _⟩, h0⟩, fun i m H hw => ?_⟩
  obtain ⟨⟨rfl, le⟩, pv⟩ := hw
  rcases Nat.lt_or_ge i n with lt | ge
  · refine Or.inr ⟨wk.goes i H lt (hG i H le pv), Pv (i + 1), fun H' pv' => ⟨n - (i + 1), by omega, ⟨rfl, lt⟩, pv'⟩, fun x H' y => ?_⟩
    exact hs i x H H' lt pv (wk.yields i H x H' lt (hG i H le pv) y)
  · have e : i = n := Nat.le_antisymm le ge
    subst e
    exact Or.inl ⟨wk.stops H (hG _ H le pv), hd H pv⟩
abbrev nLinksOf : List Str := ["ask", "plan", "order", "way", "found", "at", "number", "link"]
theorem scLinksOf : FnScope nLinksOf ["ask", "plan"] (defScope sLinksOf) := ⟨rfl, rfl, rfl, by decide +kernel, rfl, by decide +kernel, by decide +kernel⟩
def spLinksOf (K : PySem.W.Frag) : Sp := fun vs H Q _ => ∃ (a pl o : Addr) (wy : V) (S : List Sr) (tl : List PyData) (order : List Nat), vs = [.ref a, .ref pl] ∧ Dp K H (.ref a) (askD S tl) ∧ SqT K H pl [.ref o, wy] ∧ SqT K H o (order.map vN) ∧ S.length ≤ 100 ∧ Wf S ∧ order.Perm (withs wW S) ∧
  ∀ H' D kvs, Same H H' → H D = none → H' D = some (.dK kvs) → DkD K H' kvs (linksD (both (linkF S order) (order ++ others wW S))) → Q (.ref D) H'
theorem cut_nats (ys : List Nat) {j : Nat} (h : j < ys.length) : cutV (ys.map vN) none (some (j : Int)) = (ys.take j).map vN ∧ ¬ (HT.sIx (ys.map vN).length 0 none = 0 ∧ HT.sIx (ys.map vN).length (ys.map vN).length (some (j : Int)) = (ys.map vN).length) := by
  refine ⟨?_, fun z => ?_⟩
  · unfold cutV
    rw [HT.sIx_none, List.drop_zero, HT.sIx_nat, List.length_map, Nat.sub_zero, ← List.map_take, Nat.min_eq_left (Nat.le_of_lt h)]
  · have z2 := z.2
    rw [HT.sIx_nat, List.length_map] at z2
    omega
section
variable {P : Program} {w : World} {K : PySem.W.Frag} {mg : Str → Option Value} {base : Heap}
theorem ok_linksOf {f fL fO : Addr} {fd fdL fdO : FuncData} {k : Nat} (F : Fun K "links_of" "links_of" sLinksOf f fd) (FL : Fun K "link_to" "link_to" sLinkTo fL fdL) (GL : FnOk P w K mg base CX0 (k + 1) fL fdL ["ask", "number", "ahead"] (spLink K linkTo)) (bL : Binds K fdL ["ask", "number", "ahead"] []) (gL : mg "link_to" = some (.ref fL))
    (FO : Fun K "other_numbers" "other_numbers" sOther fO fdO) (GO : FnOk P w K mg base CX0 (k + 1) fO fdO ["ask"] (spNums noW K)) (bO : Binds K fdO ["ask"] []) (gO : mg "other_numbers" = some (.ref fO)) (me : mg "enumerate" = none) : FnOk P w K mg base CX0 (k + 2) f fd ["ask", "plan"] (spLinksOf K) := by
  refine F.ok scLinksOf (fun vs H Q E h => ?_) (fun cdv A outer s H vs Q E hr h => ?_)
  · obtain ⟨a, pl, o, wy, S, tl, order, rfl, _⟩ := h
    rfl
  · obtain ⟨a, pl, o, wy, S, tl, order, rfl, hA, hP, hO, hlen, wf, pm, q⟩ := h
    have hu := hu_of hr
    refine ⟨_, pss_cons (ps_asg (pv 1) (pg_tup rfl (pgs_cons (pg_name (i := 2) scLinksOf.nd rfl (Or.inl rfl)) (pgs_cons (pg_name (i := 3) scLinksOf.nd rfl (Or.inl rfl)) pgs_nil))))
      (pss_cons (ps_set (i := 4) scLinksOf.nd rfl (.inl rfl) pe_dnewK)
      (pss_cons (ps_for PassesOwn.never rfl (pi_enumT (by rfl) me (pa_cons (pv 2) pa_nil)) (pg_tup rfl (pgs_cons (pg_name (i := 5) scLinksOf.nd rfl (Or.inl rfl)) (pgs_cons (pg_name (i := 6) scLinksOf.nd rfl (Or.inl rfl)) pgs_nil)))
          (pss_one (ps_dput hu (pv 4) (pv 6) (pe_call GL hr (by rfl) gL FL.kp bL .nil pass0 (pa_cons (pv 0) (pa_cons (pv 6) (pa_cons (pe_slice sl_tup (pv 2) po_none (po_some (pv 5))) pa_nil)))) rfl)))
      (pss_cons (ps_for PassesOwn.never rfl (pi_list (pe_call GO hr (by rfl) gO FO.kp bO .nil pass0 (pa_cons (pv 0) pa_nil))) (pg_name (i := 6) scLinksOf.nd rfl (Or.inl rfl))
          (pss_one (ps_dput hu (pv 4) (pv 6) (pe_call GL hr (by rfl) gL FL.kp bL .nil pass0 (pa_cons (pv 0) (pa_cons (pv 6) (pa_cons (pv 2) pa_nil)))) rfl)))
      (pss_one (ps_ret (pe_lock (pe_dc (own := [("number", 6), ("link", 7)]) (g := gTup K 2 (gCons (gName 6) (gCons (gName 7) gNil))) (tt := tB (tNotN (tVar 7))) (tk := tVar 6) (tv := tVar 7) rfl scLinksOf.nd (pi_items (pv 4))
          (blkOk_by (own := [("number", 6), ("link", 7)]) (N := nLinksOf) (sc := defScope sLinksOf) (by decide +kernel))
          (fun _ _ _ _ _ => pg_tup rfl (pgs_cons (pg_name (i := 6) scLinksOf.nd rfl (Or.inl rfl)) (pgs_cons (pg_name (i := 7) scLinksOf.nd rfl (Or.inl rfl)) pgs_nil)))
          (fun _ _ _ _ _ => pts_one (pt_cmp (pc_notN (pv 7)))) (fun _ _ _ _ _ => pv 6) (fun _ _ _ _ _ => pv 7)))))))), ?_⟩
    have nd : order.Nodup := pm.symm.nodup (withs_nodup wW S)
    have olt : ∀ n ∈ order, n < S.length := fun n hn => withs_lt (pm.mem_iff.mp hn)
    have ollen : order.length ≤ S.length := by
      rw [pm.length_eq]
      have := List.length_filter_le (fun n => decide ((S[n]?.map Src.way) = some wW)) (List.range S.length)
      rw [List.length_range] at this
      exact this
    have othlen : (others wW S).length ≤ S.length := by
      have := List.length_filter_le (fun n => !decide ((S[n]?.map Src.way) = some wW)) (List.range S.length)
      rw [List.length_range] at this
      exact this
    have dis : ∀ n ∈ others wW S, n ∉ order := fun n hn h2 => apart (pm.mem_iff.mp h2) hn
    refine ⟨.ref pl, rfl, pl, _, rfl, hP, rfl, _, _, rfl, _, _, rfl, rfl, fun FD hFD => ?_⟩
    refine ⟨.ref o, rfl, o, order.map vN, rfl, same_tup (same_new hFD) hO, ?_⟩
    refine for_it walk_enumT (fun i σ H' => ∃ x5 x6 x7 kvs, σ = [some (.ref a), some (.ref pl), some (.ref o), some wy, some (.ref FD), x5, x6, x7] ∧ Same H H' ∧ H' FD = some (.dK kvs) ∧ DkL K H' kvs ((order.take i).map fun n => (n, linkF S order n)))
      ⟨none, none, none, [], rfl, same_new hFD, upd_same, .nil⟩ (fun i σ H' _ p => by
        obtain ⟨_, _, _, _, _, s2, _⟩ := p
        exact same_tup s2 hO) (fun i x σ H2 H3 hi hp hy => ?_) (fun σ H2 hp => ?_)
    · obtain ⟨x5, x6, x7, kvs, rfl, s2, hFD2, dl⟩ := hp
      obtain ⟨T, y1, y2, rfl, nT, rfl, e1, e2⟩ := hy
      cases e1
      rw [List.length_map] at hi
      have e3 : y2 = vN order[i] := by
        have e4 : (order.map vN)[i]? = some y2 := e2
        rw [List.getElem?_map, List.getElem?_eq_getElem hi] at e4
        exact (Option.some.inj e4).symm
      subst e3
      have nm : order[i] ∈ order := List.getElem_mem hi
      have sT := same_new (o := .tup [.int (i : Nat), vN order[i]]) nT
      refine ⟨T, [.int (i : Nat), vN order[i]], rfl, SqT.of upd_same, rfl, _, _, rfl, _, _, rfl, rfl, ?_⟩
      generalize hH3 : upd H2 T (.tup [.int (i : Nat), vN order[i]]) = H3 at sT
      have s3 := s2.trans sT
      obtain ⟨c1, c2⟩ := cut_nats order hi
      refine ⟨.ref a, rfl, vN order[i], rfl, .ref o, rfl, .int (i : Nat), rfl, (i : Int), rfl, o, order.map vN, rfl, same_tup s3 hO, c2, fun AO hAO => ?_⟩
      rw [c1]
      have s4 := s3.trans (same_new (o := .tup ((order.take i).map vN)) hAO)
      have tl_len : (order.take i).length ≤ 1000 := by rw [List.length_take]; omega
      have alt : ∀ m ∈ order.take i, m < S.length := fun m hm => olt m (List.mem_of_mem_take hm)
      refine ⟨a, AO, S, tl, order[i], order.take i, rfl, same_dp s4 _ _ hA, SqT.of upd_same, by omega, tl_len, olt _ nm, alt, wf, fun H5 v s5 lv => ?_⟩
      have sA : Same H2 H5 := (sT.trans (same_new hAO)).trans s5
      have hFD5 : H5 FD = some (.dK kvs) := sA _ _ hFD2
      have el : linkTo S order[i] (order.take i) = linkF S order order[i] := by
        rw [linkTo_law wf (olt _ nm) alt]
        unfold linkF
        rw [take_idx nd hi]
      rw [el] at lv
      have kl : kvs.length = i := by rw [dkl_len dl, List.length_map, List.length_take]; omega
      have nin : order[i] ∉ ((order.take i).map fun n => (n, linkF S order n)).map (·.1) := fun hm => by
        have hm2 : order[i] ∈ order.take i := by
          rw [fst_map] at hm
          exact hm
        obtain ⟨j, hj, ej⟩ := List.getElem_of_mem hm2
        rw [List.getElem_take] at ej
        have hj2 : j < i := by rw [List.length_take] at hj; omega
        have := (List.getElem_inj nd).mp ej
        omega
      refine ⟨.ref FD, rfl, vN order[i], rfl, FD, _, rfl, DPut.k (k := Sum.inl ((order[i] : Nat) : Int)) hFD5 (by rw [kl]; exact small1000 (by omega)), ?_⟩
      rw [putK_new v (dkl_none dl nin)]
      have tk : TK H2 (upd H5 FD (.dK (kvs ++ [(Sum.inl ((order[i] : Nat) : Int), v)]))) := (TK.of_same sA).trans (TK.dict btp_upd hFD5)
      have tk5 : TK H5 (upd H5 FD (.dK (kvs ++ [(Sum.inl ((order[i] : Nat) : Int), v)]))) := TK.dict btp_upd hFD5
      have ht : order.take (i + 1) = order.take i ++ [order[i]] := by
        rw [List.take_add_one, List.getElem?_eq_getElem hi]
        rfl
      refine ⟨_, _, x7, _, rfl, same_over hFD (s4.trans s5), upd_same, ?_⟩
      rw [ht, List.map_append]
      exact dkl_snoc (tk_link tk5 lv) (tk_dkl tk dl)
    · obtain ⟨x5, x6, x7, kvs, rfl, s2, hFD2, dl⟩ := hp
      rw [List.length_map, List.take_length] at dl
      -- the others
      refine ⟨.ref a, rfl, a, S, tl, rfl, same_dp s2 _ _ hA, by omega, fun H3 OL s3 fOL hOL => ?_⟩
      have hOL' : H3 OL = some (.lst ((others wW S).map vN)) := hOL
      have nOF : OL ≠ FD := fun z => by
        rw [z, hFD2] at fOL
        cases fOL
      refine ⟨OL, rfl, ⟨_, SqL.of hOL'⟩, ?_⟩
      refine for_list (K := K) (a := OL) (xs := (others wW S).map vN) (fun i σ H' => ∃ x6 kvs, σ = [some (.ref a), some (.ref pl), some (.ref o), some wy, some (.ref FD), x5, x6, x7] ∧ Same H H' ∧ H' FD = some (.dK kvs) ∧ H' OL = some (.lst ((others wW S).map vN)) ∧ DkL K H' kvs ((order ++ (others wW S).take i).map fun n => (n, linkF S order n)))
        ⟨x6, kvs, rfl, s2.trans s3, s3 _ _ hFD2, hOL', by rw [List.take_zero, List.append_nil]; exact tk_dkl (TK.of_same s3) dl⟩ (fun i σ H' _ p => by
          obtain ⟨_, _, _, _, _, h4, _⟩ := p
          exact SqL.of h4) (fun i y σ H4 hx hp => ?_) (fun σ H4 hp => ?_)
      · obtain ⟨x6, kvs, rfl, s4, hFD4, hOL4, dl4⟩ := hp
        rw [List.getElem?_map] at hx
        obtain ⟨n, hn1, hn2⟩ := Option.map_eq_some_iff.mp hx
        subst hn2
        have nm : n ∈ others wW S := List.mem_of_getElem? hn1
        have nlt := others_lt nm
        refine ⟨.ref a, rfl, vN n, rfl, .ref o, rfl, a, o, S, tl, n, order, rfl, same_dp s4 _ _ hA, same_tup s4 hO, by omega, by omega, nlt, olt, wf, fun H5 v s5 lv => ?_⟩
        have hFD5 : H5 FD = some (.dK kvs) := s5 _ _ hFD4
        have el : linkTo S n order = linkF S order n := by
          rw [linkTo_law wf nlt olt]
          unfold linkF
          rw [ahead_other (dis n nm)]
        rw [el] at lv
        have kl : kvs.length ≤ 200 := by
          rw [dkl_len dl4, List.length_map, List.length_append, List.length_take]
          omega
        have il : i < (others wW S).length := (List.getElem?_eq_some_iff.mp hn1).1
        have oi : (others wW S)[i] = n := (List.getElem?_eq_some_iff.mp hn1).2
        have ond : (others wW S).Nodup := List.nodup_range.filter _
        have nin : n ∉ ((order ++ (others wW S).take i).map fun n => (n, linkF S order n)).map (·.1) := fun hm => by
          have hm2 : n ∈ order ++ (others wW S).take i := by
            rw [fst_map] at hm
            exact hm
          rcases List.mem_append.mp hm2 with h2 | h2
          · exact dis n nm h2
          · obtain ⟨j, hj, ej⟩ := List.getElem_of_mem h2
            rw [List.getElem_take] at ej
            have hj2 : j < i := by rw [List.length_take] at hj; omega
            have := (List.getElem_inj ond).mp (ej.trans oi.symm)
            omega
        refine ⟨.ref FD, rfl, vN n, rfl, FD, _, rfl, DPut.k (k := Sum.inl ((n : Nat) : Int)) hFD5 (small1000 (by omega)), ?_⟩
        rw [putK_new v (dkl_none dl4 nin)]
        have tk5 : TK H5 (upd H5 FD (.dK (kvs ++ [(Sum.inl ((n : Nat) : Int), v)]))) := TK.dict btp_upd hFD5
        have tk : TK H4 (upd H5 FD (.dK (kvs ++ [(Sum.inl ((n : Nat) : Int), v)]))) := (TK.of_same s5).trans tk5
        have ht : order ++ (others wW S).take (i + 1) = (order ++ (others wW S).take i) ++ [n] := by
          rw [List.take_add_one, hn1, List.append_assoc]
          rfl
        refine ⟨_, _, rfl, same_over hFD (s4.trans s5), upd_same, by rw [upd_ne nOF]; exact s5 _ _ hOL4, ?_⟩
        rw [ht, List.map_append]
        exact dkl_snoc (tk_link tk5 lv) (tk_dkl tk dl4)
      · obtain ⟨x6, kvs, rfl, s4, hFD4, hOL4, dl4⟩ := hp
        rw [List.length_map, List.take_length] at dl4
        -- the links that there are
        generalize hns : order ++ others wW S = ns at dl4 q
        have nsnd : ns.Nodup := by
          rw [← hns, List.nodup_append]
          refine ⟨nd, List.nodup_range.filter _, fun x hx y hy e => ?_⟩
          subst e
          exact dis x hy hx
        have nslen : ns.length ≤ 200 := by
          rw [← hns, List.length_append]
          omega
        have kl : kvs.length = ns.length := by rw [dkl_len dl4, List.length_map]
        refine ⟨FD, .dK kvs, hFD4, trivial, fun od => ?_⟩
        have tk0 : TK H4 (upd H4 FD (.frz od (.dK kvs))) := TK.dict btp_upd hFD4
        refine ⟨.ref FD, rfl, FD, od, kvs, rfl, upd_same, fun D hD => ?_⟩
        have nFD : FD ≠ D := ne_of_none upd_same hD
        have hD4 : H4 D = none := by
          rw [upd_ne nFD.symm] at hD
          exact hD
        have hD0 : H D = none := s4.free hD4
        refine dc_it (walk_items (d := FD) (o := od) (kvs := kvs)) (fun i H' => ∃ ls, Same H (upd H' FD (.dK kvs)) ∧ H' FD = some (.frz od (.dK kvs)) ∧ H' D = some (.dK ls) ∧ DkL K H' kvs (ns.map fun n => (n, linkF S order n)) ∧ DkD K H' ls (linksD (both (linkF S order) (ns.take i)))) ⟨[], ?_, ?_, upd_same, ?_, .nil⟩ (fun i H' _ p => by
          obtain ⟨_, _, h5, _⟩ := p
          exact h5) (fun i x H5 H6 hi hp hy => ?_) (fun H5 hp => ?_)
        · refine same_over hFD (same_over hD0 (same_over hFD s4))
        · rw [upd_ne nFD, upd_same]
        · exact tk_dkl (tk0.trans (TK.of_same (same_new hD))) dl4
        · obtain ⟨ls, s5, hFD5, hD5, dk5, dd5⟩ := hp
          obtain ⟨T, y1, y2, rfl, nT, rfl, e1, e2⟩ := hy
          have sT := same_new (o := .tup [y1, y2]) nT
          obtain ⟨kv, ekv⟩ : ∃ kv, kvs[i]? = some kv := ⟨_, List.getElem?_eq_getElem hi⟩
          obtain ⟨kk, kv2⟩ := kv
          have e3 : kvs[i]?.map (fun kv => kV kv.1) = some y1 := e1
          have e4 : kvs[i]?.map Prod.snd = some y2 := e2
          rw [ekv] at e3 e4
          have e1' : y1 = kV kk := (Option.some.inj e3).symm
          have e2' : y2 = kv2 := (Option.some.inj e4).symm
          subst e1' e2'
          obtain ⟨n, lo, hL, rfl, lv⟩ := dkl_get dk5 ekv
          rw [List.getElem?_map] at hL
          obtain ⟨n', hn1, hn2⟩ := Option.map_eq_some_iff.mp hL
          cases hn2
          have ht : ns.take (i + 1) = ns.take i ++ [n] := by
            rw [List.take_add_one, hn1]
            rfl
          have il : i < ns.length := by rw [← kl]; exact hi
          refine ⟨T, [kV (Sum.inl ((n : Nat) : Int)), y2], rfl, SqT.of upd_same, rfl, _, _, rfl, _, _, rfl, rfl, rfl, y2, rfl, _, rfl, ?_⟩
          have hFD6 : (upd H5 T (.tup [kV (Sum.inl ((n : Nat) : Int)), y2])) FD = some (.frz od (.dK kvs)) := sT _ _ hFD5
          have hD6 : (upd H5 T (.tup [kV (Sum.inl ((n : Nat) : Int)), y2])) D = some (.dK ls) := sT _ _ hD5
          have dk6 := tk_dkl (TK.of_same sT) dk5
          have dd6 := tk_dkd (TK.of_same sT) (tupy_links _) dd5
          have lv6 := tk_link (TK.of_same sT) lv
          have nTF : T ≠ FD := fun z => by
            rw [z, hFD5] at nT
            cases nT
          have s6 : Same H (upd (upd H5 T (.tup [kV (Sum.inl ((n : Nat) : Int)), y2])) FD (.dK kvs)) := fun c u e => by
            have nc : c ≠ FD := fun z => by
              rw [z, hFD] at e
              cases e
            have g5 := s5 c u e
            rw [upd_ne nc] at g5
            rw [upd_ne nc]
            exact sT c u g5
          generalize upd H5 T (.tup [kV (Sum.inl ((n : Nat) : Int)), y2]) = H6 at hFD6 hD6 dk6 dd6 lv6 s6
          have el : both (linkF S order) (ns.take (i + 1)) = both (linkF S order) (ns.take i) ++ ((linkF S order n).map fun p => (n, p)).toList := by
            rw [ht, both_snoc]
          cases elo : linkF S order n with
          | none =>
            rw [elo] at lv6 el
            have ey : y2 = .non := lv6
            subst ey
            refine iteF (show ∃ ls, _ from ⟨ls, s6, hFD6, hD6, dk6, ?_⟩)
            rw [el, show (Option.map (fun p => (n, p)) (none : Option (Pr Str))).toList = [] from rfl, List.append_nil]
            exact dd6
          | some p =>
            rw [elo] at lv6 el
            have ny : decide (y2 = V.non) = false := decide_eq_false fun z => by
              rw [z] at lv6
              cases lv6
            rw [ny]
            refine iteT ⟨kV (Sum.inl ((n : Nat) : Int)), rfl, y2, rfl, ls, Sum.inl ((n : Nat) : Int), rfl, hD6, ?_, _, ?_, ?_, upd_same, tk_dkl (TK.dict btp_upd hD6) dk6, ?_⟩
            · have : ls.length = (both (linkF S order) (ns.take i)).length := by
                rw [dkd_len dd6]
                exact List.length_map ..
              have l2 := List.length_filterMap_le (fun n => (linkF S order n).map fun p => (n, p)) (ns.take i)
              rw [List.length_take] at l2
              unfold both at this
              exact small1000 (by omega)
            · exact fun c u e => by
                have nc : c ≠ FD := fun z => by
                  rw [z, hFD] at e
                  cases e
                have nd2 : c ≠ D := fun z => by
                  rw [z, hD0] at e
                  cases e
                have g6 := s6 c u e
                rw [upd_ne nc] at g6
                rw [upd_ne nc, upd_ne nd2]
                exact g6
            · rw [upd_ne nFD]
              exact hFD6
            · have nin : n ∉ (both (linkF S order) (ns.take i)).map (·.1) := both_keys fun hm => by
                obtain ⟨j, hj, ej⟩ := List.getElem_of_mem hm
                rw [List.getElem_take] at ej
                have hj2 : j < i := by rw [List.length_take] at hj; omega
                have en : ns[i] = n := (List.getElem?_eq_some_iff.mp hn1).2
                have := (List.getElem_inj nsnd).mp (ej.trans en.symm)
                omega
              rw [putK_new y2 (dkd_none dd6 (links_key nin)), el]
              have etl : linksD (both (linkF S order) (ns.take i) ++ (Option.map (fun p => (n, p)) (some p)).toList) = linksD (both (linkF S order) (ns.take i)) ++ [(Sum.inl ((n : Nat) : Int), pairD p)] := by
                unfold linksD
                rw [List.map_append]
                rfl
              rw [etl]
              have tkD : TK H6 (upd H6 D (.dK (ls ++ [(Sum.inl ((n : Nat) : Int), y2)]))) := TK.dict btp_upd hD6
              exact dkd_snoc (tk_dp tkD _ _ (tupy_pair p) lv6) (tk_dkd tkD (tupy_links _) dd6)
        · obtain ⟨ls, s5, hFD5, hD5, dk5, dd5⟩ := hp
          rw [kl, List.take_length] at dd5
          refine ⟨hFD5, q _ D ls s5 hD0 (by rw [upd_ne nFD.symm]; exact hD5) ?_⟩
          refine tk_dkd (H := H5) (fun c => ⟨fun xs hx => ?_, fun o2 xs hx => ?_⟩) (tupy_links _) dd5
          · have nc : c ≠ FD := fun z => by
              rw [z, hFD5] at hx
              cases hx
            rw [upd_ne nc]
            exact hx
          · have nc : c ≠ FD := fun z => by
              rw [z, hFD5] at hx
              cases hx
            rw [upd_ne nc]
            exact hx
end
end K19

namespace K19
open PySem PySem.Spec PyProof.Rows L2
def wayS (b : Bool) : Str := if b then "kept" else "walked"
def planD (p : List Nat × Bool) : PyData := .tuple [ordD p.1, .str (wayS p.2)]
theorem tupy_plan (p : List Nat × Bool) : tupy (planD p) = true := by
  show (tupy (ordD p.1) && (true && true)) = true
  rw [tupy_ord]
  rfl
theorem sh_way : ∀ b : Bool, Sh (wayS b) := by
  intro b
  cases b
  · exact ⟨by decide +kernel, by decide +kernel⟩
  · exact ⟨by decide +kernel, by decide +kernel⟩
theorem shp_plan (p : List Nat × Bool) : Shp 2 (planD p) := Shp.tup (n := 1) fun d hd => by
  rcases List.mem_cons.mp hd with e | hd
  · rw [e]
    exact shp_ord _
  · rw [List.mem_singleton.mp hd]
    exact (Shp.str (sh_way _)).mono (by decide)
theorem small9 {n : Nat} (h : n ≤ 10000) : n < sizeLine := Nat.lt_of_le_of_lt h (by decide)
/-- plans whose orders are bare tuples of these numbers -/
def PBare (K : PySem.W.Frag) (H : Hp) (as : List V) (ps : List (List Nat × Bool)) : Prop := Paired (fun (v : V) (p : List Nat × Bool) => ∃ pl t wy, v = .ref pl ∧ SqT K H pl [.ref t, wy] ∧ SqT K H t (p.1.map vN) ∧ Bare H t) as ps
theorem PBare.tk {K : PySem.W.Frag} {H H' : Hp} (s : TK H H') : ∀ {as : List V} {ps : List (List Nat × Bool)}, PBare K H as ps → PBare K H' as ps
  | _, _, .nil => .nil
  | _, _, .cons h t => by
    obtain ⟨pl, x, wy, e, h1, h2, g⟩ := h
    exact .cons ⟨pl, x, wy, e, tk_tup s h1, tk_tup s h2, g.tk s⟩ (PBare.tk s t)
theorem PBare.append {K : PySem.W.Frag} {H : Hp} {bs : List V} {qs : List (List Nat × Bool)} (b : PBare K H bs qs) : ∀ {as : List V} {ps : List (List Nat × Bool)}, PBare K H as ps → PBare K H (as ++ bs) (ps ++ qs)
  | _, _, .nil => b
  | _, _, .cons h t => .cons h (PBare.append b t)
theorem PBare.one {K : PySem.W.Frag} {H : Hp} {pl t : Addr} {wy : V} {p : List Nat × Bool} (h : SqT K H pl [.ref t, wy]) (g : SqT K H t (p.1.map vN)) (b : Bare H t) : PBare K H [.ref pl] [p] := .cons ⟨pl, t, wy, rfl, h, g, b⟩ .nil
theorem PBare.get {K : PySem.W.Frag} {H : Hp} : ∀ {as : List V} {ps : List (List Nat × Bool)} {i : Nat} {v : V}, PBare K H as ps → as[i]? = some v → ∃ p pl t wy, ps[i]? = some p ∧ v = .ref pl ∧ SqT K H pl [.ref t, wy] ∧ SqT K H t (p.1.map vN) ∧ Bare H t
  | _, _, _, _, .nil, e => by simp at e
  | _, _, 0, _, .cons h _, e => by
    cases e
    obtain ⟨pl, t, wy, h1, h2, h3, h4⟩ := h
    exact ⟨_, pl, t, wy, rfl, h1, h2, h3, h4⟩
  | _, _, i + 1, v, .cons _ t, e => by
    obtain ⟨p, pl, x, wy, h0, h1⟩ := PBare.get (i := i) t (by simpa using e)
    exact ⟨p, pl, x, wy, by simpa using h0, h1⟩
abbrev nPlans : List Str := ["ask", "found", "order"]
theorem scPlans : FnScope nPlans ["ask"] (defScope sPlans) := ⟨rfl, rfl, rfl, by decide +kernel, rfl, by decide +kernel, by decide +kernel⟩
def spPlans (K : PySem.W.Frag) : Sp := fun vs H Q _ => ∃ (a : Addr) (S : List Sr) (tl : List PyData), vs = [.ref a] ∧ Dp K H (.ref a) (askD S tl) ∧ S.length ≤ 5 ∧ Wf S ∧
  ∀ H' p as, Same H H' → H p = none → H' p = some (.lst as) → DpAll K H' as ((plans 5 wW S).map planD) → PBare K H' as (plans 5 wW S) → Q (.ref p) H'
section
variable {P : Program} {w : World} {K : PySem.W.Frag} {mg : Str → Option Value} {base : Heap}
theorem ok_plans {f fL fO fW : Addr} {fd fdL fdO fdW : FuncData} {t1 t2 : Tok} (F : Fun K "plans_of" "plans_of" sPlans f fd) (FL : Fun K "links_of" "links_of" sLinksOf fL fdL) (GL : FnOk P w K mg base CX0 6 fL fdL ["ask", "plan"] (spLinksOf K)) (bL : Binds K fdL ["ask", "plan"] []) (gL : mg "links_of" = some (.ref fL))
    (FO : Fun K "orders_of" "orders_of" sOrders fO fdO) (GO : FnOk P w K mg base CX0 6 fO fdO ["numbers"] (spOrders K 5)) (bO : Binds K fdO ["numbers"] []) (gO : mg "orders_of" = some (.ref fO))
    (FW : Fun K "with_numbers" "with_numbers" sWith fW fdW) (GW : FnOk P w K mg base CX0 6 fW fdW ["ask"] (spNums isW K)) (bW : Binds K fdW ["ask"] []) (gW : mg "with_numbers" = some (.ref fW)) (gk : mg "KEPT" = some (.str "kept" t1)) (gw : mg "WALKED" = some (.str "walked" t2)) :
    FnOk P w K mg base CX0 7 f fd ["ask"] (spPlans K) := by
  refine F.ok scPlans (fun vs H Q E h => ?_) (fun cdv A outer s H vs Q E hr h => ?_)
  · obtain ⟨a, S, tl, rfl, _⟩ := h
    rfl
  · obtain ⟨a, S, tl, rfl, hA, hlen, wf, q⟩ := h
    refine ⟨_, pss_cons (ps_set (i := 1) scPlans.nd rfl (.inl rfl) (pe_lst pa_nil))
      (pss_cons (ps_for PassesOwn.never rfl (pi_list (pe_call GO hr (by rfl) gO FO.kp bO .nil pass0 (pa_cons (pe_call GW hr (by rfl) gW FW.kp bW .nil pass0 (pa_cons (pv 0) pa_nil)) pa_nil))) (pg_name (i := 2) scPlans.nd rfl (Or.inl rfl))
        (pss_cons (ps_if (pt_cmpR (op_neNil hr.units0) (pe_call GL hr (by rfl) gL FL.kp bL .nil pass0 (pa_cons (pv 0) (pa_cons (pe_tup (pa_cons (pv 2) (pa_cons (pe_glob (v := .str "kept") (by rfl) gk ⟨_, rfl⟩) pa_nil))) pa_nil))) pe_dnewK (nomark _))
            (pss_one (ps_expr (pe_bm PySem.F.plainAttrs_list PySem.F.slot_list_append PySem.F.type_list_append mt_append (pv 1) (pa_cons (pe_tup (pa_cons (pv 2) (pa_cons (pe_glob (v := .str "kept") (by rfl) gk ⟨_, rfl⟩) pa_nil))) pa_nil)))) pss_nil)
        (pss_one (ps_expr (pe_bm PySem.F.plainAttrs_list PySem.F.slot_list_append PySem.F.type_list_append mt_append (pv 1) (pa_cons (pe_tup (pa_cons (pv 2) (pa_cons (pe_glob (v := .str "walked") (by rfl) gw ⟨_, rfl⟩) pa_nil))) pa_nil))))))
      (pss_one (ps_ret (pv 1)))), ?_⟩
    refine ⟨Nat.zero_le _, fun FD hFD => ?_⟩
    have s1 := same_new (o := .lst []) hFD
    have wl : (withs wW S).length ≤ 5 := Nat.le_trans (withs_le wW S) hlen
    refine ⟨.ref a, rfl, a, S, tl, rfl, same_dp s1 _ _ hA, by omega, fun H2 WL s2 fWL hWL => ?_⟩
    have hWL' : H2 WL = some (.lst ((withs wW S).map vN)) := hWL
    refine ⟨WL, withs wW S, rfl, SqL.of hWL', withs_nodup wW S, wl, fun H3 OL as s3 fOL hOL da bas => ?_⟩
    refine ⟨OL, rfl, ⟨_, SqL.of hOL⟩, ?_⟩
    have hFD3 : H3 FD = some (.lst []) := s3 _ _ (s2 _ _ upd_same)
    have nOF : OL ≠ FD := fun z => by
      rw [z, s2 _ _ upd_same] at fOL
      cases fOL
    have s03 : Same H H3 := (s1.trans s2).trans s3
    have al : as.length = (orders 5 (withs wW S)).length := by rw [dpAll_len da, List.length_map]
    have ol := orders_len 5 (withs wW S) wl
    have operm : ∀ o ∈ orders 5 (withs wW S), o.Perm (withs wW S) := orders_perm 5 _ (withs_nodup wW S) wl
    unfold plans at q
    generalize orders 5 (withs wW S) = os at da al ol q operm
    refine for_list (K := K) (a := OL) (xs := as) (fun i σ H' => ∃ x2 fs, σ = [some (.ref a), some (.ref FD), x2] ∧ Same H H' ∧ TK H3 H' ∧ H' OL = some (.lst as) ∧ H' FD = some (.lst fs) ∧ DpAll K H' fs (((os.take i).flatMap (planOf wW S)).map planD) ∧ fs.length ≤ 2 * i ∧ PBare K H' fs ((os.take i).flatMap (planOf wW S)))
      ⟨none, [], rfl, s03, TK.of_same (Same.refl _), hOL, hFD3, .nil, Nat.zero_le _, .nil⟩ (fun i σ H' _ p => by
        obtain ⟨_, _, _, _, _, h4, _⟩ := p
        exact SqL.of h4) (fun i y σ H4 hx hp => ?_) (fun σ H4 hp => ?_)
    · obtain ⟨x2, fs, rfl, s4, t4, hOL4, hFD4, df, fl, bfs⟩ := hp
      have il : i < os.length := by
        rw [← al]
        exact (List.getElem?_eq_some_iff.mp hx).1
      obtain ⟨v', hv1, hv2⟩ := dpAll_get (i := i) (d := ordD os[i]) da (by rw [List.getElem?_map, List.getElem?_eq_getElem il]; rfl)
      rw [hx] at hv1
      cases hv1
      have dt4 := tk_dp t4 _ _ (tupy_ord _) hv2
      obtain ⟨t, rfl, gt⟩ := ord_at dt4
      have gt3 : SqT K H3 t (os[i].map vN) := by
        obtain ⟨t', e3, g3⟩ := ord_at hv2
        cases e3
        exact g3
      have bt3 : Bare H3 t := by
        obtain ⟨t', e, b⟩ := bas _ (List.mem_of_getElem? hx)
        cases e
        exact b
      have pm := operm _ (List.getElem_mem il)
      have ht : os.take (i + 1) = os.take i ++ [os[i]] := by
        rw [List.take_add_one, List.getElem?_eq_getElem il]
        rfl
      have hfl : ((os.take (i + 1)).flatMap (planOf wW S)) = ((os.take i).flatMap (planOf wW S)) ++ planOf wW S os[i] := by
        rw [ht, List.flatMap_append, List.flatMap_cons, List.flatMap_nil, List.append_nil]
      -- the links by the kept plan
      refine ⟨.ref a, rfl, .ref t, rfl, by show 2 ≤ sizeLine; decide, fun PL hPL => ?_⟩
      have s5 := same_new (o := .tup [.ref t, .str "kept"]) hPL
      refine ⟨a, PL, t, .str "kept", S, tl, os[i], rfl, same_dp (s4.trans s5) _ _ hA, SqT.of upd_same, same_tup s5 gt, by omega, wf, pm, fun H6 LD kvs s6 fLD hLD dkd => ?_⟩
      have s46 : Same H4 H6 := s5.trans s6
      refine (show ∀ E, H6 E = none → _ from fun E hE => ?_)
      have s7 := same_new (o := .dK []) hE
      have hLD7 : (upd H6 E (.dK [])) LD = some (.dK kvs) := s7 _ _ hLD
      have s47 : Same H4 (upd H6 E (.dK [])) := s46.trans s7
      refine ⟨LD, E, kvs, rfl, rfl, hLD7, upd_same, _, rfl, ?_⟩
      have hem : kvs.isEmpty = decide (both (linkF S os[i]) (os[i] ++ others wW S) = []) := by
        have l1 := dkd_len dkd
        unfold linksD at l1
        rw [List.length_map] at l1
        cases hb : both (linkF S os[i]) (os[i] ++ others wW S) with
        | nil =>
          rw [hb] at l1
          rw [List.length_eq_zero_iff.mp l1]
          rfl
        | cons z r =>
          rw [hb] at l1
          cases kvs with
          | nil => cases l1
          | cons _ _ => rfl
      generalize upd H6 E (.dK []) = H7 at s47
      -- the walked one, from any heap and found list
      have last : ∀ (H8 : Hp) (gs : List V) (ds : List (List Nat × Bool)), Same H H8 → TK H3 H8 → H8 OL = some (.lst as) → H8 FD = some (.lst gs) → DpAll K H8 gs (ds.map planD) → ds ++ [(os[i], false)] = ((os.take (i + 1)).flatMap (planOf wW S)) → gs.length ≤ 2 * i + 1 → PBare K H8 gs ds →
          ∀ T, H8 T = none → ∃ l xs y, V.ref FD = .ref l ∧ [V.ref T] = [y] ∧ (upd H8 T (.tup [.ref t, .str "walked"])) l = some (.lst xs) ∧ xs.length < sizeLine ∧
            ∃ x2' fs', [some (V.ref a), some (V.ref FD), some (V.ref t)] = [some (.ref a), some (.ref FD), x2'] ∧ Same H (upd (upd H8 T (.tup [.ref t, .str "walked"])) l (.lst (xs ++ [y]))) ∧ TK H3 (upd (upd H8 T (.tup [.ref t, .str "walked"])) l (.lst (xs ++ [y]))) ∧
              (upd (upd H8 T (.tup [.ref t, .str "walked"])) l (.lst (xs ++ [y]))) OL = some (.lst as) ∧ (upd (upd H8 T (.tup [.ref t, .str "walked"])) l (.lst (xs ++ [y]))) FD = some (.lst fs') ∧
              DpAll K (upd (upd H8 T (.tup [.ref t, .str "walked"])) l (.lst (xs ++ [y]))) fs' (((os.take (i + 1)).flatMap (planOf wW S)).map planD) ∧ fs'.length ≤ 2 * (i + 1) ∧ PBare K (upd (upd H8 T (.tup [.ref t, .str "walked"])) l (.lst (xs ++ [y]))) fs' ((os.take (i + 1)).flatMap (planOf wW S)) := fun H8 gs ds s8 t8 o8 f8 d8 e8 l8 b8 T hT => by
        have sT := same_new (o := .tup [.ref t, .str "walked"]) hT
        have f9 := sT _ _ f8
        have dt8 : Dp K H8 (.ref t) (ordD os[i]) := tk_dp t8 _ _ (tupy_ord _) hv2
        have dT : Dp K (upd H8 T (.tup [.ref t, .str "walked"])) (.ref T) (planD (os[i], false)) := dp_new upd_same (.cons (same_dp sT _ _ dt8) (.cons (.str _) .nil))
        have d9 := same_dpAll sT _ _ d8
        have b9 : PBare K (upd H8 T (.tup [.ref t, .str "walked"])) (gs ++ [.ref T]) (ds ++ [(os[i], false)]) := PBare.append (PBare.one (p := (os[i], false)) (SqT.of upd_same) (same_tup sT (tk_tup t8 gt3)) ((bt3.tk t8).same sT)) (b8.tk (TK.of_same sT))
        have o9 := sT _ _ o8
        have s9 := s8.trans sT
        have t9 := t8.trans (TK.of_same sT)
        generalize upd H8 T (.tup [.ref t, .str "walked"]) = H9 at f9 dT d9 o9 s9 t9 b9
        have tk : TK H9 (upd H9 FD (.lst (gs ++ [.ref T]))) := TK.of_btp btp_upd f9
        refine ⟨FD, gs, .ref T, rfl, rfl, f9, small9 (by omega), _, _, rfl, same_over hFD s9, t9.trans tk, by rw [upd_ne nOF]; exact o9, upd_same, ?_, by rw [List.length_append]; show gs.length + 1 ≤ _; omega, by rw [← e8]; exact b9.tk tk⟩
        rw [← e8, List.map_append]
        exact dpAll_append (tk_dpAll tk _ _ (tupyAll_map _ fun z _ => tupy_plan z) d9) (.cons (tk_dp tk _ _ (tupy_plan _) dT) .nil)
      have f7 : H7 FD = some (.lst fs) := s47 _ _ hFD4
      have o7 : H7 OL = some (.lst as) := s47 _ _ hOL4
      have t7 : TK H3 H7 := t4.trans (TK.of_same s47)
      have d7 := same_dpAll s47 _ _ df
      have b7 := bfs.tk (TK.of_same s47)
      have s07 : Same H H7 := s4.trans s47
      have dt7 : Dp K H7 (.ref t) (ordD os[i]) := tk_dp t7 _ _ (tupy_ord _) hv2
      rw [hem]
      by_cases hb : both (linkF S os[i]) (os[i] ++ others wW S) = []
      · rw [decide_eq_true hb]
        refine iteF ⟨.ref FD, rfl, .inl ⟨rfl, _, SqL.of f7⟩, .ref t, rfl, by show 2 ≤ sizeLine; decide, last H7 fs _ s07 t7 o7 f7 d7 ?_ (by omega) b7⟩
        rw [hfl]
        unfold planOf
        rw [if_pos hb]
        rfl
      · rw [decide_eq_false hb]
        refine iteT ⟨.ref FD, rfl, .inl ⟨rfl, _, SqL.of f7⟩, .ref t, rfl, by show 2 ≤ sizeLine; decide, fun T hT => ?_⟩
        have sT := same_new (o := .tup [.ref t, .str "kept"]) hT
        have dT : Dp K (upd H7 T (.tup [.ref t, .str "kept"])) (.ref T) (planD (os[i], true)) := dp_new upd_same (.cons (same_dp sT _ _ dt7) (.cons (.str _) .nil))
        have f8 := sT _ _ f7
        have o8 := sT _ _ o7
        have d8 := same_dpAll sT _ _ d7
        have s08 := s07.trans sT
        have t8 := t7.trans (TK.of_same sT)
        have b8 : PBare K (upd H7 T (.tup [.ref t, .str "kept"])) (fs ++ [.ref T]) (((os.take i).flatMap (planOf wW S)) ++ [(os[i], true)]) := PBare.append (PBare.one (p := (os[i], true)) (SqT.of upd_same) (same_tup sT (tk_tup t7 gt3)) ((bt3.tk t7).same sT)) (b7.tk (TK.of_same sT))
        refine ⟨FD, fs, .ref T, rfl, rfl, f8, small9 (by omega), ?_⟩
        generalize upd H7 T (.tup [.ref t, .str "kept"]) = H8 at dT f8 o8 d8 s08 t8 b8
        have tk : TK H8 (upd H8 FD (.lst (fs ++ [.ref T]))) := TK.of_btp btp_upd f8
        refine ⟨.ref FD, rfl, .inl ⟨rfl, _, SqL.of upd_same⟩, .ref t, rfl, by show 2 ≤ sizeLine; decide, last _ (fs ++ [.ref T]) (((os.take i).flatMap (planOf wW S)) ++ [(os[i], true)]) (same_over hFD s08) (t8.trans tk) (by rw [upd_ne nOF]; exact o8) upd_same ?_ ?_ (by rw [List.length_append]; show fs.length + 1 ≤ _; omega) (b8.tk tk)⟩
        · rw [List.map_append]
          exact dpAll_append (tk_dpAll tk _ _ (tupyAll_map _ fun z _ => tupy_plan z) d8) (.cons (tk_dp tk _ _ (tupy_plan _) dT) .nil)
        · rw [hfl]
          unfold planOf
          rw [if_neg hb, List.append_assoc]
    · obtain ⟨x2, fs, rfl, s4, t4, hOL4, hFD4, df, fl, bfs⟩ := hp
      rw [al, List.take_length] at df bfs
      exact ⟨.ref FD, rfl, q H4 FD fs s4 hFD hFD4 df bfs⟩
end
end K19

namespace K19
/-! ### what a link of the law's stands for -/
theorem stands {α : Type} [DecidableEq α] {S : List (Src α)} (wf : Wf S) {order : List Nat} (nd : order.Nodup) (ho : ∀ m ∈ order, m < S.length) {n : Nat} {p : Pr α} (h : linkF S order n = some p) :
    p.als ∈ aliases S ∧ (aliases S).idxOf p.als ∈ order ∧ (n ∈ order → order.idxOf ((aliases S).idxOf p.als) < order.idxOf n) ∧
    ((∃ s, S[n]? = some s ∧ p ∈ s.pairs) ∨ ∃ s, S[(aliases S).idxOf p.als]? = some s ∧ ∀ x, (aliases S)[n]? = some x → (⟨p.col, x, p.own⟩ : Pr α) ∈ s.pairs) := by
  unfold linkF at h
  rcases lawLink_some h with ⟨s, h1, h2, h3⟩ | ⟨o, s, r, h1, h2, h3, h4, h5⟩
  · have ma : p.als ∈ aliases S := wf.al s (List.mem_of_getElem? h1) p h2
    exact ⟨ma, ahead_mem h3, fun hn => ahead_before nd hn h3, .inl ⟨s, h1, h2⟩⟩
  · subst h5
    have ol : o < S.length := (List.getElem?_eq_some_iff.mp h1).1
    have es : S[o] = s := (List.getElem?_eq_some_iff.mp h1).2
    have ma : s.name ∈ aliases S := List.mem_map.mpr ⟨s, List.mem_of_getElem? h1, rfl⟩
    have ei : (aliases S).idxOf s.name = o := (idxOf_eq wf.nd (by rw [List.length_map]; exact ol) ma).mpr (by rw [List.getElem_map, es])
    refine ⟨ma, by rw [ei]; exact ahead_mem h3, fun hn => by rw [ei]; exact ahead_before nd hn h3, .inr ⟨s, by rw [ei]; exact h1, fun x hx => ?_⟩⟩
    have mr : r.als ∈ aliases S := wf.al s (List.mem_of_getElem? h1) r h2
    have hl : (aliases S).idxOf r.als < (aliases S).length := List.idxOf_lt_length_iff.mpr mr
    have ex : r.als = x := by
      rw [← h4, List.getElem?_eq_getElem hl, List.getElem_idxOf hl] at hx
      exact Option.some.inj hx
    subst ex
    exact h2
open PySem PySem.Spec PyProof.Rows L2
abbrev nLinks : List Str := ["_law_asked", "_law_order", "_law_found", "_law_number", "_law_source", "_law_ahead", "_law_link_here"]
theorem scLinks : FnScope nLinks ["_law_asked", "_law_order"] (defScope sLinks) := ⟨rfl, rfl, rfl, by decide +kernel, rfl, by decide +kernel, by decide +kernel⟩
def spLawLinks (K : PySem.W.Frag) : Sp := fun vs H Q _ => ∃ (a o : Addr) (S : List Sr) (tl : List PyData) (order : List Nat), vs = [.ref a, .ref o] ∧ Dp K H (.ref a) (askD S tl) ∧ SqT K H o (order.map vN) ∧ Bare H o ∧ S.length ≤ 100 ∧ order.length ≤ 100 ∧ Wf S ∧ order.Nodup ∧ (∀ m ∈ order, m < S.length) ∧
  ∀ H' D kvs, Same H H' → H D = none → H' D = some (.dK kvs) → DkD K H' kvs (linksD (both (linkF S order) (List.range S.length))) → Q (.ref D) H'
abbrev order_idx (r : List Nat) (n : Nat) : Nat := r.idxOf n
theorem idx_int (order : List Nat) (n : Nat) : (order.map fun n : Nat => (n : Int)).idxOf (n : Int) = order.idxOf n := by
  induction order with
  | nil => rfl
  | cons x r ih =>
    rw [List.map_cons, List.idxOf_cons, List.idxOf_cons, ih]
    show (bif ((x : Int) == (n : Int)) then 0 else order_idx r n + 1) = bif (x == n) then 0 else order_idx r n + 1
    have e : ((x : Int) == (n : Int)) = (x == n) := by
      by_cases h : x = n
      · rw [beq_iff_eq.mpr h, h]
        exact beq_self_eq_true _
      · rw [beq_eq_false_iff_ne.mpr h]
        exact beq_eq_false_iff_ne.mpr (by omega)
    rw [e]
theorem vN_ints (order : List Nat) : order.map vN = (order.map fun n : Nat => (n : Int)).map V.int := by
  rw [List.map_map]
  rfl
section
variable {P : Program} {w : World} {K : PySem.W.Frag} {mg : Str → Option Value} {base : Heap}
theorem ok_lawLinks {f fL : Addr} {fd fdL : FuncData} {k : Nat} (F : Fun K "_law_links" "_law_links" sLinks f fd) (FL : Fun K "_law_link" "_law_link" sLink fL fdL) (GL : FnOk P w K mg base CX0 (k + 1) fL fdL ["_law_asked", "_law_number", "_law_ahead"] (spLink K lawLink)) (bL : Binds K fdL ["_law_asked", "_law_number", "_law_ahead"] [])
    (gL : mg "_law_link" = some (.ref fL)) (me : mg "enumerate" = none) : FnOk P w K mg base CX0 (k + 2) f fd ["_law_asked", "_law_order"] (spLawLinks K) := by
  refine F.ok scLinks (fun vs H Q E h => ?_) (fun cdv A outer s H vs Q E hr h => ?_)
  · obtain ⟨a, o, S, tl, order, rfl, _⟩ := h
    rfl
  · obtain ⟨a, o, S, tl, order, rfl, hA, hO, hB, hlen, oll, wf, nd, olt, q⟩ := h
    have hu := hu_of hr
    refine ⟨_, pss_cons (ps_set (i := 2) scLinks.nd rfl (.inl rfl) pe_dnewK)
      (pss_cons (ps_for PassesOwn.never rfl (pi_enumT (by rfl) me (pa_cons (pe_ix ix_tup (pv 0) pe_int (fun _ _ => rfl)) pa_nil))
          (pg_tup rfl (pgs_cons (pg_name (i := 3) scLinks.nd rfl (Or.inl rfl)) (pgs_cons (pg_name (i := 4) scLinks.nd rfl (Or.inl rfl)) pgs_nil)))
          (pss_cons (ps_set (i := 5) scLinks.nd rfl (.inl rfl) (pv 1))
          (pss_cons (ps_if (pt_cmpR op_in_seq (pv 3) (pv 1) rfl) (pss_one (ps_set (i := 5) scLinks.nd rfl (.inl rfl) (pe_slice sl_tup (pv 1) po_none (po_some (pe_bare PySem.F.plainAttrs_tuple PySem.F.slot_tuple_index PySem.F.type_tuple_index mt_tindexI (pv 1) (pa_cons (pv 3) pa_nil)))))) pss_nil)
          (pss_cons (ps_set (i := 6) scLinks.nd rfl (.inl rfl) (pe_call GL hr (by rfl) gL FL.kp bL .nil pass0 (pa_cons (pv 0) (pa_cons (pv 3) (pa_cons (pv 5) pa_nil)))))
          (pss_one (ps_if (pt_cmp (pc_notN (pv 6))) (pss_one (ps_dput hu (pv 2) (pv 3) (pv 6) rfl)) pss_nil))))))
      (pss_one (ps_ret (pv 2)))), ?_⟩
    obtain ⟨a', xs, sA, ys, e, h1, h2, h3, h4, h5⟩ := ask_at hA
    cases e
    refine fun FD hFD => ?_
    have s1 := same_new (o := .dK []) hFD
    refine ⟨.ref a, rfl, a, xs, 0, .ref sA, rfl, rfl, same_tup s1 h1, atI_nat (j := 0) h2, sA, ys, rfl, same_tup s1 h3, ?_⟩
    refine for_it walk_enumT (fun i σ H' => ∃ x3 x4 x5 x6 kvs, σ = [some (.ref a), some (.ref o), some (.ref FD), x3, x4, x5, x6] ∧ Same H H' ∧ H' FD = some (.dK kvs) ∧ DkD K H' kvs (linksD (both (linkF S order) (List.range i))))
      ⟨none, none, none, none, [], rfl, s1, upd_same, .nil⟩ (fun i σ H' _ p => by
        obtain ⟨_, _, _, _, _, _, s2, _⟩ := p
        exact same_tup s2 h3) (fun i x σ H2 H3 hi hp hy => ?_) (fun σ H2 hp => ?_)
    · obtain ⟨x3, x4, x5, x6, kvs, rfl, s2, hFD2, dd⟩ := hp
      obtain ⟨T, y1, y2, rfl, nT, rfl, e1, e2⟩ := hy
      cases e1
      rw [h4] at hi
      have sT := same_new (o := .tup [.int (i : Nat), y2]) nT
      refine ⟨T, [.int (i : Nat), y2], rfl, SqT.of upd_same, rfl, _, _, rfl, _, _, rfl, rfl, ?_⟩
      generalize hH3 : upd H2 T (.tup [.int (i : Nat), y2]) = H3 at sT
      have s3 := s2.trans sT
      have hO3 := same_tup s3 hO
      have rest : ∀ (AO : Addr) (H4 : Hp), Same H3 H4 → SqT K H4 AO ((aheadOf order i).map vN) → (tSeq (tAsg (tCall (spLink K lawLink) [] E0 (tCons (tVar 0) (tCons (tVar 3) (tCons (tVar 5) tNil)))) (gName 6)) (tIfS (tB (tNotN (tVar 6))) (sDPut (tVar 2) (tVar 3) (tVar 6)) tNext))
          { nx := fun σ H' => ∃ x3 x4 x5 x6 kvs, σ = [some (.ref a), some (.ref o), some (.ref FD), x3, x4, x5, x6] ∧ Same H H' ∧ H' FD = some (.dK kvs) ∧ DkD K H' kvs (linksD (both (linkF S order) (List.range (i + 1)))), rt := Q }
          [some (.ref a), some (.ref o), some (.ref FD), some (.int (i : Nat)), some y2, some (.ref AO), x6] H4 := fun AO H4 s4 hAO => by
        refine ⟨.ref a, rfl, vN i, rfl, .ref AO, rfl, a, AO, S, tl, i, aheadOf order i, rfl, same_dp (s3.trans s4) _ _ hA, hAO, by omega, ?_, hi, fun m hm => olt m (ahead_mem hm), wf, fun H5 v s5 lv => ?_⟩
        · unfold aheadOf
          split
          · rw [List.length_take]
            omega
          · omega
        · have s25 : Same H2 H5 := (sT.trans s4).trans s5
          have hFD5 : H5 FD = some (.dK kvs) := s25 _ _ hFD2
          have dd5 := tk_dkd (TK.of_same s25) (tupy_links _) dd
          have el : both (linkF S order) (List.range (i + 1)) = both (linkF S order) (List.range i) ++ ((linkF S order i).map fun p => (i, p)).toList := by
            rw [List.range_succ, both_snoc]
          have lv' : LinkV K H5 v (linkF S order i) := lv
          refine ⟨v, rfl, _, rfl, ?_⟩
          cases elo : linkF S order i with
          | none =>
            rw [elo] at lv' el
            have ey : v = .non := lv'
            subst ey
            refine iteF (show ∃ x3 x4 x5 x6 kvs, _ from ⟨_, _, _, _, kvs, rfl, s2.trans s25, hFD5, ?_⟩)
            rw [el, show (Option.map (fun p => (i, p)) (none : Option (Pr Str))).toList = [] from rfl, List.append_nil]
            exact dd5
          | some p =>
            rw [elo] at lv' el
            have ny : decide (v = V.non) = false := decide_eq_false fun z => by
              rw [z] at lv'
              cases lv'
            rw [ny]
            have kl : kvs.length ≤ 100 := by
              have e1 : kvs.length = (both (linkF S order) (List.range i)).length := by
                rw [dkd_len dd]
                exact List.length_map ..
              have l2 := List.length_filterMap_le (fun n => (linkF S order n).map fun p => (n, p)) (List.range i)
              rw [List.length_range] at l2
              unfold both at e1
              omega
            refine iteT ⟨v, rfl, .ref FD, rfl, vN i, rfl, FD, _, rfl, DPut.k (k := Sum.inl ((i : Nat) : Int)) hFD5 (small1000 (by omega)), _, _, _, _, _, rfl, same_over hFD (s2.trans s25), upd_same, ?_⟩
            have nin : i ∉ (both (linkF S order) (List.range i)).map (·.1) := both_keys fun hm => absurd (List.mem_range.mp hm) (Nat.lt_irrefl _)
            rw [putK_new v (dkd_none dd5 (links_key nin)), el]
            have etl : linksD (both (linkF S order) (List.range i) ++ (Option.map (fun p => (i, p)) (some p)).toList) = linksD (both (linkF S order) (List.range i)) ++ [(Sum.inl ((i : Nat) : Int), pairD p)] := by
              unfold linksD
              rw [List.map_append]
              rfl
            rw [etl]
            have tkD : TK H5 (upd H5 FD (.dK (kvs ++ [(Sum.inl ((i : Nat) : Int), v)]))) := TK.dict btp_upd hFD5
            exact dkd_snoc (tk_dp tkD _ _ (tupy_pair p) lv') (tk_dkd tkD (tupy_links _) dd5)
      refine ⟨.ref o, rfl, ?_⟩
      refine ⟨.int (i : Nat), rfl, .ref o, rfl, o, _, rfl, .inr hO3, rfl, flat_nat _, _, rfl, ?_⟩
      rw [show inV (V.int ((i : Nat) : Int)) (order.map vN) = decide (i ∈ order) from inV_nat i order]
      refine ite2 (fun c => ?_) (fun c => ?_)
      · have c' : i ∈ order := by simpa using c
        have il : order.idxOf i < order.length := List.idxOf_lt_length_iff.mpr c'
        obtain ⟨c1, c2⟩ := cut_nats order il
        refine ⟨.ref o, rfl, ?_⟩
        refine ⟨.ref o, rfl, ⟨o, rfl, hB.same s3⟩, .int (i : Nat), rfl, o, order.map fun n : Nat => (n : Int), (i : Int), rfl, rfl, by rw [← vN_ints]; exact hO3, List.mem_map.mpr ⟨i, c', rfl⟩, ?_⟩
        rw [idx_int]
        refine ⟨_, rfl, o, order.map vN, rfl, hO3, c2, fun AO hAO => ?_⟩
        rw [c1]
        refine rest AO _ (same_new hAO) ?_
        unfold aheadOf
        rw [if_pos c']
        exact SqT.of upd_same
      · have c' : i ∉ order := by simpa using c
        refine rest o H3 (Same.refl _) ?_
        rw [ahead_other c']
        exact hO3
    · obtain ⟨x3, x4, x5, x6, kvs, rfl, s2, hFD2, dd⟩ := hp
      rw [h4] at dd
      exact ⟨.ref FD, rfl, q H2 FD kvs s2 hFD hFD2 dd⟩
end
end K19

namespace K19
open PySem PySem.Spec PyProof.Rows L2
theorem link_sh {S : List Sr} (hs : ∀ s ∈ S, ShS s) {n : Nat} {ahead : List Nat} {p : Pr Str} (h : lawLink S n ahead = some p) : ShP p := by
  rcases lawLink_some h with ⟨s, h1, h2, _⟩ | ⟨o, s, r, h1, h2, _, _, h5⟩
  · exact (hs s (List.mem_of_getElem? h1)).pairs p h2
  · subst h5
    have ss := hs s (List.mem_of_getElem? h1)
    have sr := ss.pairs r h2
    exact ⟨sr.2.2, ss.name, sr.1⟩
abbrev nStands : List Str := ["_law_asked", "_law_number", "_law_link_here", "_law_order", "_law_aliases", "_law_other", "_law_turned_so", "_law_source"]
theorem scStands : FnScope nStands ["_law_asked", "_law_number", "_law_link_here", "_law_order"] (defScope sStands) := ⟨rfl, rfl, rfl, by decide +kernel, rfl, by decide +kernel, by decide +kernel⟩
def spStands (K : PySem.W.Frag) : Sp := fun vs H Q _ => ∃ (a l o : Addr) (S : List Sr) (tl : List PyData) (n : Nat) (order : List Nat) (p : Pr Str), vs = [.ref a, vN n, .ref l, .ref o] ∧ Dp K H (.ref a) (askD S tl) ∧ Dp K H (.ref l) (pairD p) ∧ SqT K H o (order.map vN) ∧ Bare H o ∧ S.length ≤ 100 ∧ n < S.length ∧ Wf S ∧ order.Nodup ∧
  (∀ m ∈ order, m < S.length) ∧ (∀ s ∈ S, ShS s) ∧ linkF S order n = some p ∧ ∀ H', Same H H' → Q (.bl true) H'
theorem any_in {l : List (Pr Str)} {p : Pr Str} (h : p ∈ l) (hp : ShP p) : (l.map pairD).any (fun z => PyData.eqv z (pairD p)) = true := by
  rw [List.any_eq_true]
  exact ⟨pairD p, List.mem_map.mpr ⟨p, h, rfl⟩, (fine_pair hp).shp.refl⟩
section
variable {P : Program} {w : World} {K : PySem.W.Frag} {mg : Str → Option Value} {base : Heap}
theorem ok_stands {f : Addr} {fd : FuncData} {k : Nat} (F : Fun K "_law_stands" "_law_stands" sStands f fd) : FnOk P w K mg base CX0 (k + 1) f fd ["_law_asked", "_law_number", "_law_link_here", "_law_order"] (spStands K) := by
  refine F.ok scStands (fun vs H Q E h => ?_) (fun cdv A outer s H vs Q E hr h => ?_)
  · obtain ⟨a, l, o, S, tl, n, order, p, rfl, _⟩ := h
    rfl
  · obtain ⟨a, l, o, S, tl, n, order, p, rfl, hA, hLk, hO, hB, hlen, hn, wf, nd, olt, hsh, hlk, q⟩ := h
    have hu : (A.deeper (envOfC "_law_stands" (defScope sStands) s.heap.objs.size f cdv)).units + 65 < cLine := by
      have := hr.un
      omega
    refine ⟨_, pss_cons (ps_setLc (i := 4) (own := [("_law_source", 7)]) (g := gName 7) (tt := tYes) (te := tOp (rIxT K) (tVar 7) (tC (.int 1))) rfl scStands.nd rfl rfl (sw_true rfl rfl rfl (by decide +kernel)) (pi_tup (pe_ix ix_tup (pv 0) pe_int (fun _ _ => rfl)))
          (blkOk_by (own := [("_law_source", 7)]) (N := nStands) (sc := defScope sStands) (by decide +kernel))
          (fun _ _ _ _ _ => pg_name (i := 7) scStands.nd rfl (Or.inl rfl)) (fun _ _ _ _ _ => pts_nil) (fun _ _ _ _ _ => pe_ix ix_tup (pv 7) pe_int (fun _ _ => rfl)))
      (pss_cons (ps_set (i := 5) scStands.nd rfl (.inl rfl) (pe_bm PySem.F.plainAttrs_list PySem.F.slot_list_index PySem.F.type_list_index mt_lindexS (pv 4) (pa_cons (pe_ix ix_tup (pv 2) pe_int (fun _ _ => rfl)) pa_nil)))
      (pss_cons (ps_if (PW.pt (pw_and (pt_cmpR op_in_seq (pv 1) (pv 3) rfl) (pw_and1 (pt_cmpR op_ge (pe_bare PySem.F.plainAttrs_tuple PySem.F.slot_tuple_index PySem.F.type_tuple_index mt_tindexI (pv 3) (pa_cons (pv 5) pa_nil))
            (pe_bare PySem.F.plainAttrs_tuple PySem.F.slot_tuple_index PySem.F.type_tuple_index mt_tindexI (pv 3) (pa_cons (pv 1) pa_nil)) (nomark _))))) (pss_one (ps_ret pe_bl)) pss_nil)
      (pss_cons (ps_set (i := 6) scStands.nd rfl (.inl rfl) (pe_tup (pa_cons (pe_ix ix_tup (pv 2) pe_int (fun _ _ => rfl)) (pa_cons (pe_ix ix_list (pv 4) (pv 1) (fun _ _ => rfl)) (pa_cons (pe_ix ix_tup (pv 2) pe_int (fun _ _ => rfl)) pa_nil)))))
      (pss_one (ps_ret (pe_and (pe_cmpR op_in_seq (pv 5) (pv 3) rfl) (pe_one (pe_or
          (pe_cmpR (op_inT hu) (pv 2) (pe_ix ix_tup (pe_ix ix_tup (pe_ix ix_tup (pv 0) pe_int (fun _ _ => rfl)) (pv 1) (fun _ _ => rfl)) pe_int (fun _ _ => rfl)) rfl)
          (pe_one (pe_cmpR (op_inT hu) (pv 6) (pe_ix ix_tup (pe_ix ix_tup (pe_ix ix_tup (pv 0) pe_int (fun _ _ => rfl)) (pv 5) (fun _ _ => rfl)) pe_int (fun _ _ => rfl)) rfl)))))))))), ?_⟩
    obtain ⟨a', xs, sA, ys, e, h1, h2, h3, h4, h5⟩ := ask_at hA
    cases e
    obtain ⟨hma, hmo, hbef, hwh⟩ := stands wf nd olt hlk
    -- aliases
    refine ⟨.ref a, rfl, a, xs, 0, .ref sA, rfl, rfl, h1, atI_nat (j := 0) h2, sA, rfl, ⟨_, h3⟩, fun AL hAL => ?_⟩
    refine lc_tup (K := K) (a := sA) (xs := ys) (fun i H' => Same H H' ∧ H' AL = some (.lst (((aliases S).take i).map V.str))) ⟨same_new hAL, upd_same⟩ (fun i H' _ p => same_tup p.1 h3) (fun i x H1 hx hp => ?_) (fun H1 hp => ?_)
    · obtain ⟨sm, hl⟩ := hp
      obtain ⟨si, hsi, dsi⟩ := srcs_get h5 hx
      obtain ⟨bi, pi, rfl, gi, _⟩ := src_at (same_dp sm _ _ dsi)
      have il : i < S.length := (List.getElem?_eq_some_iff.mp hsi).1
      have ht : (aliases S).take (i + 1) = (aliases S).take i ++ [si.name] := by
        rw [List.take_add_one, List.getElem?_map, hsi]
        rfl
      refine ⟨rfl, .ref bi, rfl, bi, _, 1, .str si.name, rfl, rfl, gi, atI_nat (j := 1) rfl, _, hl, ?_, same_over hAL sm, ?_⟩
      · rw [List.length_map, List.length_take]
        exact small1000 (by omega)
      · rw [upd_same, ht, List.map_append]
        rfl
    · obtain ⟨sm, hl⟩ := hp
      rw [show (aliases S).take ys.length = aliases S from List.take_of_length_le (by rw [List.length_map, h4]; exact Nat.le_refl _)] at hl
      obtain ⟨lk, elk, glk⟩ := pair_at (same_dp sm _ _ hLk)
      cases elk
      have hO1 := same_tup sm hO
      have hB1 := hB.same sm
      generalize hot : (aliases S).idxOf p.als = ot at hmo hbef hwh
      have otl : ot < S.length := olt _ hmo
      -- other
      refine ⟨.ref AL, rfl, .inl ⟨rfl, _, SqL.of hl⟩, .ref l, rfl, l, _, 1, .str p.als, rfl, rfl, glk, atI_nat (j := 1) rfl, AL, aliases S, p.als, rfl, rfl, SqL.of hl, hma, ?_⟩
      rw [hot]
      -- what follows the test
      have rest : (tSeq (tAsg (tTup (tCons (tOp (rIxT K) (tVar 2) (tC (.int 2))) (tCons (tOp (rIxL K) (tVar 4) (tVar 1)) (tCons (tOp (rIxT K) (tVar 2) (tC (.int 0))) tNil)))) (gName 6))
          (tRet (tAndV (tOp (rIn K false) (tVar 5) (tVar 3)) (tOrV (tOp (rInT K) (tVar 2) (tOp (rIxT K) (tOp (rIxT K) (tOp (rIxT K) (tVar 0) (tC (.int 0))) (tVar 1)) (tC (.int 3)))) (tOp (rInT K) (tVar 6) (tOp (rIxT K) (tOp (rIxT K) (tOp (rIxT K) (tVar 0) (tC (.int 0))) (tVar 5)) (tC (.int 3))))))))
          { nx := fun _ H' => Q .non H', rt := Q } [some (.ref a), some (vN n), some (.ref l), some (.ref o), some (.ref AL), some (vN ot), none, none] H1 := by
        have nl : n < (aliases S).length := by rw [List.length_map]; exact hn
        have ena : (aliases S)[n]? = some (aliases S)[n] := List.getElem?_eq_getElem nl
        refine ⟨.ref l, rfl, l, _, 2, .str p.col, rfl, rfl, glk, atI_nat (j := 2) rfl, .ref AL, rfl, vN n, rfl, AL, _, (n : Int), .str (aliases S)[n], rfl, rfl, SqL.of hl, at_str nl, .ref l, rfl, l, _, 0, .str p.own, rfl, rfl, glk, atI_nat (j := 0) rfl, by show 3 ≤ sizeLine; decide, fun T hT => ?_⟩
        have sT := same_new (o := .tup [.str p.col, .str (aliases S)[n], .str p.own]) hT
        have dT : Dp K (upd H1 T (.tup [.str p.col, .str (aliases S)[n], .str p.own])) (.ref T) (pairD ⟨p.col, (aliases S)[n], p.own⟩) := dp_new upd_same (.cons (.str _) (.cons (.str _) (.cons (.str _) .nil)))
        have s2 := sm.trans sT
        generalize upd H1 T (.tup [.str p.col, .str (aliases S)[n], .str p.own]) = H2 at s2 dT sT
        have shp : ShP p := link_sh hsh hlk
        have shn : Sh (aliases S)[n] := by
          rw [List.getElem_map]
          exact (hsh _ (List.getElem_mem hn)).name
        have shT : ShP ⟨p.col, (aliases S)[n], p.own⟩ := ⟨shp.2.2, shn, shp.1⟩
        refine ⟨vN ot, rfl, .ref o, rfl, o, _, rfl, .inr (same_tup s2 hO), rfl, flat_nat _, _, rfl, ?_⟩
        rw [show (if false = true then !inV (vN ot) (order.map vN) else inV (vN ot) (order.map vN)) = decide (ot ∈ order) from inV_nat ot order, decide_eq_true hmo]
        refine iteT ?_
        -- link in its source's pairs
        obtain ⟨vn, hvn⟩ : ∃ v, ys[n]? = some v := ⟨_, List.getElem?_eq_getElem (by omega)⟩
        obtain ⟨sn, hsn, dsn⟩ := srcs_get h5 hvn
        obtain ⟨bn, pn, rfl, gn, dpn⟩ := src_at (same_dp s2 _ _ dsn)
        have ssn := hsh sn (List.mem_of_getElem? hsn)
        refine ⟨.ref l, rfl, .ref a, rfl, a, xs, 0, .ref sA, rfl, rfl, same_tup s2 h1, atI_nat (j := 0) h2, vN n, rfl, sA, ys, (n : Int), .ref bn, rfl, rfl, same_tup s2 h3, atI_nat hvn, bn, _, 3, .ref pn, rfl, rfl, gn, atI_nat (j := 3) rfl, pairD p, sn.pairs.map pairD, same_dp s2 _ _ hLk, dpn, (fine_pair shp).shp.shaped (by decide), (fine_pairs ssn.pairs ssn.many).shp.shaped (by decide), _, rfl, ?_⟩
        refine ite2 (fun c => q H2 s2) (fun c => ?_)
        -- or the turned one in the other's
        obtain ⟨vo, hvo⟩ : ∃ v, ys[ot]? = some v := ⟨_, List.getElem?_eq_getElem (by omega)⟩
        obtain ⟨so, hso, dso⟩ := srcs_get h5 hvo
        obtain ⟨bo, po, rfl, go, dpo⟩ := src_at (same_dp s2 _ _ dso)
        have sso := hsh so (List.mem_of_getElem? hso)
        refine ⟨.ref T, rfl, .ref a, rfl, a, xs, 0, .ref sA, rfl, rfl, same_tup s2 h1, atI_nat (j := 0) h2, vN ot, rfl, sA, ys, (ot : Int), .ref bo, rfl, rfl, same_tup s2 h3, atI_nat hvo, bo, _, 3, .ref po, rfl, rfl, go, atI_nat (j := 3) rfl, pairD ⟨p.col, (aliases S)[n], p.own⟩, so.pairs.map pairD, dT, dpo, (fine_pair shT).shp.shaped (by decide), (fine_pairs sso.pairs sso.many).shp.shaped (by decide), ?_⟩
        have yes : (so.pairs.map pairD).any (fun z => PyData.eqv z (pairD ⟨p.col, (aliases S)[n], p.own⟩)) = true := by
          rcases hwh with ⟨s', g1, g2⟩ | ⟨s', g1, g2⟩
          · rw [hsn] at g1
            cases g1
            exact absurd (any_in g2 shp) c
          · rw [hso] at g1
            cases g1
            exact any_in (g2 _ ena) shT
        rw [yes]
        exact q H2 s2
      refine ⟨vN n, rfl, .ref o, rfl, o, _, rfl, .inr hO1, rfl, flat_nat _, _, rfl, ?_⟩
      rw [show (if false = true then !inV (vN n) (order.map vN) else inV (vN n) (order.map vN)) = decide (n ∈ order) from inV_nat n order]
      refine ite2 (fun c => ?_) (fun c => ?_)
      · have c' : n ∈ order := by simpa using c
        have hlt := hbef c'
        refine ⟨.ref o, rfl, ⟨o, rfl, hB1⟩, vN ot, rfl, o, order.map fun n : Nat => (n : Int), (ot : Int), rfl, rfl, by rw [← vN_ints]; exact hO1, List.mem_map.mpr ⟨ot, hmo, rfl⟩, ?_⟩
        refine ⟨.ref o, rfl, ⟨o, rfl, hB1⟩, vN n, rfl, o, order.map fun n : Nat => (n : Int), (n : Int), rfl, rfl, by rw [← vN_ints]; exact hO1, List.mem_map.mpr ⟨n, c', rfl⟩, ?_⟩
        rw [idx_int, idx_int]
        refine ⟨_, _, rfl, rfl, _, rfl, ?_⟩
        rw [decide_eq_false (show ¬ ((order.idxOf n : Nat) : Int) ≤ ((order.idxOf ot : Nat) : Int) by omega)]
        exact iteF rest
      · exact rest
end
end K19

namespace K19
open PySem PySem.Spec PyProof.Rows L2
/-! ### the ask told otherwise -/
def FA (n b : Nat) (ds : List PyData) : Prop := ∀ d ∈ ds, Fine n b d
theorem FA.nil {n b : Nat} : FA n b [] := fun _ h => nomatch h
theorem FA.cons {n b : Nat} {d : PyData} {ds : List PyData} (h : Fine n b d) (t : FA n b ds) : FA n b (d :: ds) := fun e he => by
  rcases List.mem_cons.mp he with q | q
  · rw [q]
    exact h
  · exact t e q
theorem FA.take {n b : Nat} {ds : List PyData} (h : FA n b ds) (j : Nat) : FA n b (ds.take j) := fun d hd => h d (List.mem_of_mem_take hd)
theorem fs (x : Str) (h : x.length ≤ 8 ∧ ∀ c ∈ x.cps.toList, c < 128 := by decide +kernel) : Fine 0 8 (.str x) := Fine.str h
def cellD (x : Str) : PyData := .tuple [.str "cell", .str x, .str "a"]
def sievesD (x : Str) : List PyData := [.tuple [.str "lacking", cellD x], .tuple [.str "below", cellD x, .tuple [.str "over", .tuple [.str "number", .int 1], cellD x]]]
def tellD (x : Str) : PyData := .tuple [.str "groups", .tuple [cellD x], .tuple [.tuple [.str "sum", .tuple [.str "plus", cellD x, cellD x]], .tuple [.str "count", cellD x]]]
def otherD (x : Str) (j : Nat) (d : Int) : List PyData := [.tuple ((sievesD x).take j), tellD x, .tuple [.tuple [.int 1, .str "down"]], .int d, .bool false]
section
variable {x : Str} (hx : Sh x)
include hx
theorem fine_cell : Fine 1 27 (cellD x) := Fine.tup (n := 0) (b := 8) (FA.cons (fs "cell") (FA.cons (Fine.str hx) (FA.cons (fs "a") FA.nil))) (by simp only [List.length_cons, List.length_nil]; decide)
theorem fine_cell' {n b : Nat} (hn : 1 ≤ n) (hb : 27 ≤ b) : Fine n b (cellD x) := (fine_cell hx).mono hn hb
theorem fine_sieves : FA 3 255 (sievesD x) := by
  have c1 := fine_cell hx
  have s1 : ∀ y : Str, Sh y → Fine 1 27 (.str y) := fun y hy => (Fine.str hy).mono (by decide) (by decide)
  have l1 : Fine 2 56 (.tuple [.str "lacking", cellD x]) := Fine.tup (n := 1) (b := 27) (FA.cons ((fs "lacking").mono (by decide) (by decide)) (FA.cons c1 FA.nil)) (by simp only [List.length_cons, List.length_nil]; decide)
  have n1 : Fine 1 18 (.tuple [.str "number", .int 1]) := Fine.tup (n := 0) (b := 8) (FA.cons (fs "number") (FA.cons (Fine.int (i := 1) (by decide)) FA.nil)) (by simp only [List.length_cons, List.length_nil]; decide)
  have o1 : Fine 2 84 (.tuple [.str "over", .tuple [.str "number", .int 1], cellD x]) := Fine.tup (n := 1) (b := 27) (FA.cons ((fs "over").mono (by decide) (by decide)) (FA.cons (n1.mono (by decide) (by decide)) (FA.cons c1 FA.nil))) (by simp only [List.length_cons, List.length_nil]; decide)
  have b1 : Fine 3 255 (.tuple [.str "below", cellD x, .tuple [.str "over", .tuple [.str "number", .int 1], cellD x]]) := Fine.tup (n := 2) (b := 84) (FA.cons ((fs "below").mono (by decide) (by decide)) (FA.cons (c1.mono (by decide) (by decide)) (FA.cons o1 FA.nil))) (by simp only [List.length_cons, List.length_nil]; decide)
  exact FA.cons (l1.mono (by decide) (by decide)) (FA.cons b1 FA.nil)
theorem fine_tell : Fine 5 1100 (tellD x) := by
  have c1 := fine_cell hx
  have a1 : Fine 2 28 (.tuple [cellD x]) := Fine.tup (n := 1) (b := 27) (FA.cons c1 FA.nil) (by simp only [List.length_cons, List.length_nil]; decide)
  have p1 : Fine 2 84 (.tuple [.str "plus", cellD x, cellD x]) := Fine.tup (n := 1) (b := 27) (FA.cons ((fs "plus").mono (by decide) (by decide)) (FA.cons c1 (FA.cons c1 FA.nil))) (by simp only [List.length_cons, List.length_nil]; decide)
  have u1 : Fine 3 170 (.tuple [.str "sum", .tuple [.str "plus", cellD x, cellD x]]) := Fine.tup (n := 2) (b := 84) (FA.cons ((fs "sum").mono (by decide) (by decide)) (FA.cons p1 FA.nil)) (by simp only [List.length_cons, List.length_nil]; decide)
  have k1 : Fine 2 56 (.tuple [.str "count", cellD x]) := Fine.tup (n := 1) (b := 27) (FA.cons ((fs "count").mono (by decide) (by decide)) (FA.cons c1 FA.nil)) (by simp only [List.length_cons, List.length_nil]; decide)
  have t1 : Fine 4 342 (.tuple [.tuple [.str "sum", .tuple [.str "plus", cellD x, cellD x]], .tuple [.str "count", cellD x]]) := Fine.tup (n := 3) (b := 170) (FA.cons u1 (FA.cons (k1.mono (by decide) (by decide)) FA.nil)) (by simp only [List.length_cons, List.length_nil]; decide)
  exact Fine.tup (n := 4) (b := 342) (FA.cons ((fs "groups").mono (by decide) (by decide)) (FA.cons (a1.mono (by decide) (by decide)) (FA.cons t1 FA.nil))) (by simp only [List.length_cons, List.length_nil]; decide)
theorem fine_other (j : Nat) (hj : j ≤ 2) (d : Nat) (hd : d ≤ 100) : FA 5 1100 (otherD x j (d : Int)) := by
  have s1 : Fine 4 512 (.tuple ((sievesD x).take j)) := Fine.tup (n := 3) (b := 255) ((fine_sieves hx).take j) (by
    rw [List.length_take]
    exact Nat.le_trans (Nat.mul_le_mul_left 256 (Nat.min_le_left j _)) (Nat.mul_le_mul_left 256 hj))
  have r1 : Fine 1 18 (.tuple [.int 1, .str "down"]) := Fine.tup (n := 0) (b := 8) (FA.cons (Fine.int (i := 1) (by decide)) (FA.cons (fs "down") FA.nil)) (by simp only [List.length_cons, List.length_nil]; decide)
  have r2 : Fine 2 19 (.tuple [.tuple [.int 1, .str "down"]]) := Fine.tup (n := 1) (b := 18) (FA.cons r1 FA.nil) (by simp only [List.length_cons, List.length_nil]; decide)
  exact FA.cons (s1.mono (by decide) (by decide)) (FA.cons (fine_tell hx) (FA.cons (r2.mono (by decide) (by decide)) (FA.cons ((Fine.int hd).mono (by decide) (by decide)) (FA.cons ((Fine.bl false).mono (by decide) (by decide)) FA.nil))))
end
theorem tupy_other (x : Str) (j : Nat) (hj : j ≤ 2) (d : Int) : tupyAll (otherD x j d) = true := by
  match j, hj with
  | 0, _ => rfl
  | 1, _ => rfl
  | 2, _ => rfl
abbrev nOtherwise : List Str := ["_law_pen_here", "_law_asked", "_law_cell", "_law_sieves", "_law_telling"]
theorem scOtherwise : FnScope nOtherwise ["_law_pen_here", "_law_asked"] (defScope sOtherwise) := ⟨rfl, rfl, rfl, by decide +kernel, rfl, by decide +kernel, by decide +kernel⟩
def spOtherwise (K : PySem.W.Frag) : Sp := fun vs H Q _ => ∃ (p C a : Addr) (at_ left : Int) (ms : List Int) (S : List Sr) (tl : List PyData), vs = [.ref p, .ref a] ∧ H p = some (P3 C at_ left) ∧ H C = some (.lst (ms.map V.int)) ∧ (0 ≤ at_ ∧ at_ ≤ 900000) ∧ 0 ≤ left ∧ Dp K H (.ref a) (askD S tl) ∧ 0 < S.length ∧ (∀ s ∈ S, ShS s) ∧
  ∀ (H' : Hp) (B : Addr) (tl' : List PyData) (at2 left2 : Int), Btp p H H' → H' p = some (P3 C at2 left2) → at_ ≤ at2 → at2 ≤ at_ + 2 → 0 ≤ left2 → Dp K H' (.ref B) (askD S tl') → FA 5 1100 tl' → tupyAll tl' = true → tl'.length = 5 → Q (.ref B) H'
section
variable {P : Program} {w : World} {K : PySem.W.Frag} {mg : Str → Option Value} {base : Heap}
theorem ok_otherwise {f fT : Addr} {fd fdT : FuncData} {k : Nat} (F : Fun K "_law_otherwise" "_law_otherwise" sOtherwise f fd) (FT : Fun K "_law_take" "_law_take" sTake fT fdT) (GT : FnOk P w K mg base CX0 (k + 1) fT fdT ["_law_pen_here", "_law_many"] spTake) (bT : Binds K fdT ["_law_pen_here", "_law_many"] []) (gT : mg "_law_take" = some (.ref fT)) :
    FnOk P w K mg base CX0 (k + 2) f fd ["_law_pen_here", "_law_asked"] (spOtherwise K) := by
  refine F.ok scOtherwise (fun vs H Q E h => ?_) (fun cdv A outer s H vs Q E hr h => ?_)
  · obtain ⟨p, C, a, at_, left, ms, S, tl, rfl, _⟩ := h
    rfl
  · obtain ⟨p, C, a, at_, left, ms, S, tl, rfl, hp, hC, ⟨a0, a1⟩, l0, hA, hS0, hsh, q⟩ := h
    refine ⟨_, pss_cons (ps_set (i := 2) scOtherwise.nd rfl (.inl rfl) (pe_tup (pa_cons pe_str (pa_cons (pe_ix ix_tup (pe_ix ix_tup (pe_ix ix_tup (pv 1) pe_int (fun _ _ => rfl)) pe_int (fun _ _ => rfl)) pe_int (fun _ _ => rfl)) (pa_cons pe_str pa_nil)))))
      (pss_cons (ps_set (i := 3) scOtherwise.nd rfl (.inl rfl) (pe_slice sl_tupA (pe_tup (pa_cons (pe_tup (pa_cons pe_str (pa_cons (pv 2) pa_nil)))
          (pa_cons (pe_tup (pa_cons pe_str (pa_cons (pv 2) (pa_cons (pe_tup (pa_cons pe_str (pa_cons (pe_tup (pa_cons pe_str (pa_cons pe_int pa_nil))) (pa_cons (pv 2) pa_nil)))) pa_nil)))) pa_nil)))
          po_none (po_some (pe_call GT hr (by rfl) gT FT.kp bT .nil pass0 (pa_cons (pv 0) (pa_cons pe_int pa_nil))))))
      (pss_cons (ps_set (i := 4) scOtherwise.nd rfl (.inl rfl) (pe_tup (pa_cons pe_str (pa_cons (pe_tup (pa_cons (pv 2) pa_nil)) (pa_cons (pe_tup (pa_cons (pe_tup (pa_cons pe_str (pa_cons (pe_tup (pa_cons pe_str (pa_cons (pv 2) (pa_cons (pv 2) pa_nil)))) pa_nil)))
          (pa_cons (pe_tup (pa_cons pe_str (pa_cons (pv 2) pa_nil))) pa_nil))) pa_nil)))))
      (pss_one (ps_ret (pe_tup (pa_cons (pe_ix ix_tup (pv 1) pe_int (fun _ _ => rfl)) (pa_cons (pv 3) (pa_cons (pv 4) (pa_cons (pe_tup (pa_cons (pe_tup (pa_cons pe_int (pa_cons pe_str pa_nil))) pa_nil))
          (pa_cons (pe_op op_add pe_int (pe_call GT hr (by rfl) gT FT.kp bT .nil pass0 (pa_cons (pv 0) (pa_cons pe_int pa_nil)))) (pa_cons pe_bl pa_nil))))))))))), ?_⟩
    have nCp : C ≠ p := p3_ne hp hC
    obtain ⟨a', xs, sA, ys, e, h1, h2, h3, h4, h5⟩ := ask_at hA
    cases e
    obtain ⟨v0, hv0⟩ : ∃ v, ys[0]? = some v := ⟨_, List.getElem?_eq_getElem (by omega)⟩
    obtain ⟨s0, hs0, ds0⟩ := srcs_get h5 hv0
    obtain ⟨b0, p0, rfl, g0, _⟩ := src_at ds0
    have sh0 : Sh s0.name := (hsh s0 (List.mem_of_getElem? hs0)).name
    generalize hx : s0.name = x at g0 sh0
    -- the cell
    refine ⟨.ref a, rfl, a, xs, 0, .ref sA, rfl, rfl, h1, atI_nat (j := 0) h2, sA, ys, 0, .ref b0, rfl, rfl, h3, atI_nat (j := 0) hv0, b0, _, 1, .str x, rfl, rfl, g0, atI_nat (j := 1) rfl, by show 3 ≤ sizeLine; decide, fun CL hCL => ?_⟩
    have dCL : Dp K (upd H CL (.tup [.str "cell", .str x, .str "a"])) (.ref CL) (cellD x) := dp_new upd_same (.cons (.str _) (.cons (.str _) (.cons (.str _) .nil)))
    have s1 := same_new (o := .tup [.str "cell", .str x, .str "a"]) hCL
    generalize upd H CL (.tup [.str "cell", .str x, .str "a"]) = H1 at dCL s1
    -- the sieves
    refine ⟨.ref CL, rfl, by show 2 ≤ sizeLine; decide, fun T1 hT1 => ?_⟩
    have s2 := same_new (o := .tup [.str "lacking", .ref CL]) hT1
    have d1 : Dp K (upd H1 T1 (.tup [.str "lacking", .ref CL])) (.ref T1) (.tuple [.str "lacking", cellD x]) := dp_new upd_same (.cons (.str _) (.cons (same_dp s2 _ _ dCL) .nil))
    generalize upd H1 T1 (.tup [.str "lacking", .ref CL]) = H2 at s2 d1
    refine ⟨.ref CL, rfl, by show 2 ≤ sizeLine; decide, fun T2 hT2 => ?_⟩
    have s3 := same_new (o := .tup [.str "number", .int 1]) hT2
    have d2 : Dp K (upd H2 T2 (.tup [.str "number", .int 1])) (.ref T2) (.tuple [.str "number", .int 1]) := dp_new upd_same (.cons (.str _) (.cons (.int _) .nil))
    generalize upd H2 T2 (.tup [.str "number", .int 1]) = H3 at s3 d2
    refine ⟨.ref CL, rfl, by show 3 ≤ sizeLine; decide, fun T3 hT3 => ?_⟩
    have s4 := same_new (o := .tup [.str "over", .ref T2, .ref CL]) hT3
    have c3 := same_dp (s2.trans s3) _ _ dCL
    have d3 : Dp K (upd H3 T3 (.tup [.str "over", .ref T2, .ref CL])) (.ref T3) (.tuple [.str "over", .tuple [.str "number", .int 1], cellD x]) := dp_new upd_same (.cons (.str _) (.cons (same_dp s4 _ _ d2) (.cons (same_dp s4 _ _ c3) .nil)))
    generalize upd H3 T3 (.tup [.str "over", .ref T2, .ref CL]) = H4 at s4 d3
    refine ⟨by show 3 ≤ sizeLine; decide, fun T4 hT4 => ?_⟩
    have s5 := same_new (o := .tup [.str "below", .ref CL, .ref T3]) hT4
    have c4 := same_dp s4 _ _ c3
    have d4 : Dp K (upd H4 T4 (.tup [.str "below", .ref CL, .ref T3])) (.ref T4) (.tuple [.str "below", cellD x, .tuple [.str "over", .tuple [.str "number", .int 1], cellD x]]) := dp_new upd_same (.cons (.str _) (.cons (same_dp s5 _ _ c4) (.cons (same_dp s5 _ _ d3) .nil)))
    generalize upd H4 T4 (.tup [.str "below", .ref CL, .ref T3]) = H5 at s5 d4
    refine ⟨by show 2 ≤ sizeLine; decide, fun T5 hT5 => ?_⟩
    have s6 := same_new (o := .tup [.ref T1, .ref T4]) hT5
    have h56 : (upd H5 T5 (.tup [.ref T1, .ref T4])) T5 = some (.tup [.ref T1, .ref T4]) := upd_same
    have d15 : Dp K (upd H5 T5 (.tup [.ref T1, .ref T4])) (.ref T1) (.tuple [.str "lacking", cellD x]) := same_dp (((s3.trans s4).trans s5).trans s6) _ _ d1
    have d45 := same_dp s6 _ _ d4
    have c6 := same_dp (s5.trans s6) _ _ c4
    have s06 : Same H (upd H5 T5 (.tup [.ref T1, .ref T4])) := ((((s1.trans s2).trans s3).trans s4).trans s5).trans s6
    generalize upd H5 T5 (.tup [.ref T1, .ref T4]) = H6 at s06 h56 d15 d45 c6
    refine ⟨.ref p, rfl, p, C, 3, at_, left, ms, rfl, ⟨by decide, by decide⟩, s06 _ _ hp, s06 _ _ hC, ⟨a0, by omega⟩, l0, fun H7 d at1 left1 d10 d11 e1 e2 l1 o1 hp1 => ?_⟩
    obtain ⟨j, rfl⟩ := nat_of d10
    have b7 : Btp p H H7 := (Btp.of_same s06).trans (btp_eq o1)
    have tk7 : TK H6 H7 := TK.of_btp (btp_eq o1) (s06 _ _ hp)
    have g5 : SqT K H7 T5 [.ref T1, .ref T4] := tk_tup tk7 (SqT.of h56)
    have d17 := tk_dp tk7 _ _ rfl d15
    have d47 := tk_dp tk7 _ _ rfl d45
    have c7 := tk_dp tk7 _ _ rfl c6
    have tk07 : TK H H7 := (TK.of_same s06).trans tk7
    -- behind the sieves
    have rest : ∀ (H8 : Hp) (SV : Addr), Same H7 H8 → Dp K H8 (.ref SV) (.tuple ((sievesD x).take j)) → (tSeq (tAsg (tTup (tCons (tC (.str "groups")) (tCons (tTup (tCons (tVar 2) tNil)) (tCons (tTup (tCons (tTup (tCons (tC (.str "sum")) (tCons (tTup (tCons (tC (.str "plus")) (tCons (tVar 2) (tCons (tVar 2) tNil)))) tNil))) (tCons (tTup (tCons (tC (.str "count")) (tCons (tVar 2) tNil))) tNil))) tNil)))) (gName 4))
        (tRet (tTup (tCons (tOp (rIxT K) (tVar 1) (tC (.int 0))) (tCons (tVar 3) (tCons (tVar 4) (tCons (tTup (tCons (tTup (tCons (tC (.int 1)) (tCons (tC (.str "down")) tNil))) tNil)) (tCons (tOp (rI0 fun i j => .int (i + j)) (tC (.int 1)) (tCall spTake [] E0 (tCons (tVar 0) (tCons (tC (.int 60)) tNil)))) (tCons (tC (.bl false)) tNil)))))))))
        { nx := fun _ H' => Q .non H', rt := Q } [some (.ref p), some (.ref a), some (.ref CL), some (.ref SV), none] H8 := fun H8 SV s78 dSV => by
      have c8 := same_dp s78 _ _ c7
      refine ⟨.ref CL, rfl, by show 1 ≤ sizeLine; decide, fun U1 hU1 => ?_⟩
      have r1 := same_new (o := .tup [.ref CL]) hU1
      have u1 : Dp K (upd H8 U1 (.tup [.ref CL])) (.ref U1) (.tuple [cellD x]) := dp_new upd_same (.cons (same_dp r1 _ _ c8) .nil)
      generalize upd H8 U1 (.tup [.ref CL]) = H9 at r1 u1
      refine ⟨.ref CL, rfl, .ref CL, rfl, by show 3 ≤ sizeLine; decide, fun U2 hU2 => ?_⟩
      have r2 := same_new (o := .tup [.str "plus", .ref CL, .ref CL]) hU2
      have c9 := same_dp (r1.trans r2) _ _ c8
      have u2 : Dp K (upd H9 U2 (.tup [.str "plus", .ref CL, .ref CL])) (.ref U2) (.tuple [.str "plus", cellD x, cellD x]) := dp_new upd_same (.cons (.str _) (.cons c9 (.cons c9 .nil)))
      generalize upd H9 U2 (.tup [.str "plus", .ref CL, .ref CL]) = H10 at r2 u2 c9
      refine ⟨by show 2 ≤ sizeLine; decide, fun U3 hU3 => ?_⟩
      have r3 := same_new (o := .tup [.str "sum", .ref U2]) hU3
      have u3 : Dp K (upd H10 U3 (.tup [.str "sum", .ref U2])) (.ref U3) (.tuple [.str "sum", .tuple [.str "plus", cellD x, cellD x]]) := dp_new upd_same (.cons (.str _) (.cons (same_dp r3 _ _ u2) .nil))
      have c10 := same_dp r3 _ _ c9
      generalize upd H10 U3 (.tup [.str "sum", .ref U2]) = H11 at r3 u3 c10
      refine ⟨.ref CL, rfl, by show 2 ≤ sizeLine; decide, fun U4 hU4 => ?_⟩
      have r4 := same_new (o := .tup [.str "count", .ref CL]) hU4
      have u4 : Dp K (upd H11 U4 (.tup [.str "count", .ref CL])) (.ref U4) (.tuple [.str "count", cellD x]) := dp_new upd_same (.cons (.str _) (.cons (same_dp r4 _ _ c10) .nil))
      generalize upd H11 U4 (.tup [.str "count", .ref CL]) = H12 at r4 u4
      refine ⟨by show 2 ≤ sizeLine; decide, fun U5 hU5 => ?_⟩
      have r5 := same_new (o := .tup [.ref U3, .ref U4]) hU5
      have u5 : Dp K (upd H12 U5 (.tup [.ref U3, .ref U4])) (.ref U5) (.tuple [.tuple [.str "sum", .tuple [.str "plus", cellD x, cellD x]], .tuple [.str "count", cellD x]]) := dp_new upd_same (.cons (same_dp (r4.trans r5) _ _ u3) (.cons (same_dp r5 _ _ u4) .nil))
      generalize upd H12 U5 (.tup [.ref U3, .ref U4]) = H13 at r5 u5
      refine ⟨by show 3 ≤ sizeLine; decide, fun U6 hU6 => ?_⟩
      have r6 := same_new (o := .tup [.str "groups", .ref U1, .ref U5]) hU6
      have r26 := (((r2.trans r3).trans r4).trans r5).trans r6
      have u6 : Dp K (upd H13 U6 (.tup [.str "groups", .ref U1, .ref U5])) (.ref U6) (tellD x) := dp_new upd_same (.cons (.str _) (.cons (same_dp r26 _ _ u1) (.cons (same_dp r6 _ _ u5) .nil)))
      have s714 : Same H7 (upd H13 U6 (.tup [.str "groups", .ref U1, .ref U5])) := (s78.trans r1).trans r26
      have dSV14 := same_dp (r1.trans r26) _ _ dSV
      generalize upd H13 U6 (.tup [.str "groups", .ref U1, .ref U5]) = H14 at u6 s714 dSV14
      -- the whole
      have tk14 : TK H H14 := tk07.trans (TK.of_same s714)
      refine ⟨.ref a, rfl, a, xs, 0, .ref sA, rfl, rfl, tk_tup tk14 h1, atI_nat (j := 0) h2, .ref SV, rfl, .ref U6, rfl, by show 2 ≤ sizeLine; decide, fun W1 hW1 => ?_⟩
      have r7 := same_new (o := .tup [.int 1, .str "down"]) hW1
      have w1 : Dp K (upd H14 W1 (.tup [.int 1, .str "down"])) (.ref W1) (.tuple [.int 1, .str "down"]) := dp_new upd_same (.cons (.int _) (.cons (.str _) .nil))
      generalize upd H14 W1 (.tup [.int 1, .str "down"]) = H15 at r7 w1
      refine ⟨by show 1 ≤ sizeLine; decide, fun W2 hW2 => ?_⟩
      have r8 := same_new (o := .tup [.ref W1]) hW2
      have w2 : Dp K (upd H15 W2 (.tup [.ref W1])) (.ref W2) (.tuple [.tuple [.int 1, .str "down"]]) := dp_new upd_same (.cons (same_dp r8 _ _ w1) .nil)
      have s716 : Same H7 (upd H15 W2 (.tup [.ref W1])) := (s714.trans r7).trans r8
      have u16 := same_dp (r7.trans r8) _ _ u6
      have dSV16 := same_dp (r7.trans r8) _ _ dSV14
      generalize upd H15 W2 (.tup [.ref W1]) = H16 at w2 s716 u16 dSV16
      have hp16 := s716 _ _ hp1
      refine ⟨.ref p, rfl, p, C, 60, at1, left1, ms, rfl, ⟨by decide, by decide⟩, hp16, s716 _ _ (b7 _ _ nCp hC), ⟨by omega, by omega⟩, l1, fun H17 d2 at2 left2 d20 d21 e3 e4 l2 o2 hp2 => ?_⟩
      obtain ⟨j2, rfl⟩ := nat_of d20
      have tk17 : TK H16 H17 := TK.of_btp (btp_eq o2) hp16
      refine ⟨1, (j2 : Int), rfl, rfl, by show 6 ≤ sizeLine; decide, fun B hB => ?_⟩
      have r9 := same_new (o := .tup [.ref sA, .ref SV, .ref U6, .ref W2, .int (1 + (j2 : Int)), .bl false]) hB
      have tkA : TK H17 (upd H17 B (.tup [.ref sA, .ref SV, .ref U6, .ref W2, .int (1 + (j2 : Int)), .bl false])) := TK.of_same r9
      have tkB := tk17.trans tkA
      have dsr : Dp K H (.ref sA) (.tuple (S.map srcD)) := .tup h3 h5
      have ej : (1 + (j2 : Int)) = ((1 + j2 : Nat) : Int) := by omega
      refine q _ B (otherD x j (1 + (j2 : Int))) at2 left2 (((b7.trans (Btp.of_same s716)).trans (btp_eq o2)).trans (Btp.of_same r9)) (r9 _ _ hp2) (by omega) (by omega) l2 ?_ ?_ (tupy_other x j (by omega) _) rfl
      · refine dp_new upd_same (.cons (tk_dp (((tk07.trans (TK.of_same s716)).trans tk17).trans tkA) _ _ (tupy_srcs S) dsr) (.cons (tk_dp tkB _ _ ?_ dSV16) (.cons (tk_dp tkB _ _ rfl u16) (.cons (tk_dp tkB _ _ rfl w2) (.cons (.int _) (.cons (.bl _) .nil))))))
        have := tupy_other x j (by omega) 0
        simp only [otherD, tupyAll, Bool.and_eq_true] at this
        exact this.1
      · rw [ej]
        exact fine_other sh0 j (by omega) (1 + j2) (by omega)
    refine ⟨_, rfl, T5, _, rfl, g5, fun wh => ?_, fun nw SV hSV => ?_⟩
    · -- all of it
      have e2 : j = 2 := by
        have := wh.2
        rw [HT.sIx_nat] at this
        show j = 2
        have l2 : ([V.ref T1, V.ref T4] : List V).length = 2 := rfl
        rw [l2] at this
        omega
      subst e2
      exact rest H7 T5 (Same.refl _) (.tup g5 (.cons d17 (.cons d47 .nil)))
    · have sV := same_new (o := .tup (cutV [.ref T1, .ref T4] none (some (j : Int)))) hSV
      refine rest _ SV sV (dp_new upd_same ?_)
      have d18 := same_dp sV _ _ d17
      have d48 := same_dp sV _ _ d47
      match j, d11 with
      | 0, _ => exact .nil
      | 1, _ => exact .cons d18 .nil
      | 2, _ => exact absurd ⟨rfl, rfl⟩ nw
      | n + 3, h => exact absurd h (by omega)
end
end K19

namespace K19
open PySem PySem.Spec PyProof.Rows L2
/-! ### whether the links by a plan are right -/
section
variable {K : PySem.W.Frag} {H H' : Hp}
theorem dkd_get : ∀ {kvs : List (Key × V)} {L : List (Key × PyData)} {i : Nat} {k : Key} {v : V}, DkD K H kvs L → kvs[i]? = some (k, v) → ∃ d, L[i]? = some (k, d)
  | _, _, _, _, _, .nil, e => by simp at e
  | _, _, 0, _, _, @Paired.cons _ _ _ p q _ _ h _, e => by
    cases e
    have e1 : _ = q.1 := h.1
    obtain ⟨k, d⟩ := q
    have e2 : _ = k := e1
    subst e2
    exact ⟨d, rfl⟩
  | _, _, i + 1, k, v, .cons _ t, e => by
    obtain ⟨d, h1⟩ := dkd_get (i := i) t (by simpa using e)
    exact ⟨d, by simpa using h1⟩
/-- what was told while a thing was locked stays when it is unlocked -/
theorem same_unlock {p : Addr} {u o : HO} (h : H p = some u) (s : Same (upd H p o) H') : Same H (upd H' p u) := fun b x e => by
  by_cases c : b = p
  · subst c
    rw [upd_same]
    exact h.symm.trans e
  · rw [upd_ne c]
    exact s b x (by rw [upd_ne c]; exact e)
end
abbrev nRight : List Str := ["_law_asked", "_law_chosen", "_law_due", "_law_found", "_law_number"]
theorem scRight : FnScope nRight ["_law_asked", "_law_chosen"] (defScope sRight) := ⟨rfl, rfl, rfl, by decide +kernel, rfl, by decide +kernel, by decide +kernel⟩
def spRight (K : PySem.W.Frag) : Sp := fun vs H Q _ => ∃ (a pl t : Addr) (wy : V) (S : List Sr) (tl : List PyData) (order : List Nat), vs = [.ref a, .ref pl] ∧ Dp K H (.ref a) (askD S tl) ∧ tupyAll tl = true ∧ SqT K H pl [.ref t, wy] ∧ SqT K H t (order.map vN) ∧ Bare H t ∧ order.Perm (withs wW S) ∧ order ≠ [] ∧ Wf S ∧ (∀ s ∈ S, ShS s) ∧ S.length ≤ 5 ∧
  ∀ H', Same H H' → Q (.bl true) H'
/-- links_of(plan = .., ask = ..) -/
def swap2 {α : Type} (us ws : List α) : List α := match us, ws with
  | [], [p, a] => [a, p]
  | _, _ => []
theorem swap2_rel {vs zs : List V} {us ws : List Value} (r : Vals vs us) (t : Vals zs ws) : Vals (swap2 vs zs) (swap2 us ws) := by
  cases r with
  | cons _ _ => exact .nil
  | nil =>
    cases t with
    | nil => exact .nil
    | cons h t =>
      cases t with
      | nil => exact .nil
      | cons h2 t =>
        cases t with
        | nil => exact .cons h2 (.cons h .nil)
        | cons _ _ => exact .nil
theorem kbinds_links {K : PySem.W.Frag} {f : Addr} {fd : FuncData} (F : Fun K "links_of" "links_of" sLinksOf f fd) : KBinds K fd ["ask", "plan"] ["plan", "ask"] swap2 swap2 := by
  obtain ⟨oc, od, kV, doc, pm, an, cdv, ct, osl, rfl, lk, hcd⟩ := F.ex
  refine ⟨fun s us ws _ hl => ?_, fun r t => swap2_rel r t⟩
  match us, ws, hl with
  | [], [p, a], _ => exact .of_eq rfl
section
variable {P : Program} {w : World} {K : PySem.W.Frag} {mg : Str → Option Value} {base : Heap}
theorem ok_right {f fL fK fS : Addr} {fd fdL fdK fdS : FuncData} {k : Nat} (F : Fun K "_law_right" "_law_right" sRight f fd)
    (FL : Fun K "links_of" "links_of" sLinksOf fL fdL) (GL : FnOk P w K mg base CX0 k fL fdL ["ask", "plan"] (spLinksOf K)) (bL : Binds K fdL ["ask", "plan"] []) (gL : mg "links_of" = some (.ref fL))
    (FK : Fun K "_law_links" "_law_links" sLinks fK fdK) (GK : FnOk P w K mg base CX0 k fK fdK ["_law_asked", "_law_order"] (spLawLinks K)) (bK : Binds K fdK ["_law_asked", "_law_order"] []) (gK : mg "_law_links" = some (.ref fK))
    (FS : Fun K "_law_stands" "_law_stands" sStands fS fdS) (GS : FnOk P w K mg base CX0 k fS fdS ["_law_asked", "_law_number", "_law_link_here", "_law_order"] (spStands K)) (bS : Binds K fdS ["_law_asked", "_law_number", "_law_link_here", "_law_order"] []) (gS : mg "_law_stands" = some (.ref fS))
    (mi : mg "isinstance" = none) (md : mg "dict" = none) (mr : mg "repr" = none) :
    FnG P w K mg base (k + 1) f fd ["_law_asked", "_law_chosen"] (spRight K) := by
  refine okG F scRight (fun vs H Q E h => ?_) (fun cdv A outer s H vs Q E hr gd h => ?_)
  · obtain ⟨a, pl, t, wy, S, tl, order, rfl, _⟩ := h
    rfl
  · obtain ⟨a, pl, t, wy, S, tl, order, rfl, hA, htl, hP, hO, hB, pm, one, wf, hsh, hlen, q⟩ := h
    have hu : (A.deeper (envOfC "_law_right" (defScope sRight) s.heap.objs.size f cdv)).units + 66 < cLine := by
      have := hr.un
      omega
    have hu1 : (A.deeper (envOfC "_law_right" (defScope sRight) s.heap.objs.size f cdv)).units + 1 < cLine := by omega
    have hu64 : (A.deeper (envOfC "_law_right" (defScope sRight) s.heap.objs.size f cdv)).units + 64 < cLine := by omega
    have gdd : (A.deeper (envOfC "_law_right" (defScope sRight) s.heap.objs.size f cdv)).guards = some [] := gd
    refine ⟨_, pss_cons (ps_set (i := 2) scRight.nd rfl (.inl rfl) (pe_call GK hr (by rfl) gK FK.kp bK .nil pass0 (pa_cons (pv 0) (pa_cons (pe_ix ix_tup (pv 1) pe_int (fun _ _ => rfl)) pa_nil))))
      (pss_cons (ps_set (i := 3) scRight.nd rfl (.inl rfl) (pe_call GL hr (by rfl) gL FL.kp bL .nil pass0 (pa_cons (pv 0) (pa_cons (pv 1) pa_nil))))
      (pss_cons (ps_if (PW.pt (pw_or (pt_not (pt_val (pe_callB call_isi (by rfl) mi (by decide +kernel) (pa_cons (pv 3) (pa_cons (pe_bltn (v := .ty "dict") (u := .type "dict") (by rfl) md (by decide +kernel) rfl) pa_nil)))))
          (pw_or (pt_cmpR (op_neSame hu) (pv 3) (pv 2) (nomark _))
          (pw_or1 (pt_cmp (pc_din hu1 (pe_ix ix_tup (pe_ix ix_tup (pv 1) pe_int (fun _ _ => rfl)) pe_int (fun _ _ => rfl)) (pv 3))))))) (pss_one (ps_ret pe_bl)) pss_nil)
      (pss_cons (ps_lock (ps_for PassesOwn.never rfl (pi_keys (pv 2)) (pg_name (i := 4) scRight.nd rfl (Or.inl rfl))
          (pss_one (ps_if (PW.pt (pw_or (pt_cmpR op_ne (pe_callB (call_repr_data gdd hu64) (by rfl) mr (by decide +kernel) (pa_cons (pe_dget hu1 (pv 3) (pv 4) (fun _ _ => rfl)) pa_nil)) (pe_callB (call_repr_data gdd hu64) (by rfl) mr (by decide +kernel) (pa_cons (pe_dget hu1 (pv 2) (pv 4) (fun _ _ => rfl)) pa_nil)) (nomark _))
            (pw_or1 (pt_not (pt_val (pe_call GS hr (by rfl) gS FS.kp bS .nil pass0 (pa_cons (pv 0) (pa_cons (pv 4) (pa_cons (pe_dget hu1 (pv 3) (pv 4) (fun _ _ => rfl)) (pa_cons (pe_ix ix_tup (pv 1) pe_int (fun _ _ => rfl)) pa_nil)))))))))) (pss_one (ps_ret pe_bl)) pss_nil))))
      (pss_cons (ps_expr (pe_dclear (pv 3)))
      (pss_cons (ps_dput hu1 (pv 3) pe_int pe_non rfl)
      (pss_one (ps_ret (pe_cmpR (op_eqSame hu) (pe_callK0 GL hr (by rfl) gL FL.kp (kbinds_links FL) pass0 (pk_cons (pv 1) (pk_cons (pv 0) pk_nil))) (pv 2) (nomark _))))))))), ?_⟩
    have nd : order.Nodup := pm.symm.nodup (withs_nodup wW S)
    have olt : ∀ m ∈ order, m < S.length := fun m hm => withs_lt (pm.mem_iff.mp hm)
    have ol : order.length ≤ S.length := by
      rw [pm.length_eq]
      exact withs_le wW S
    have perm := all_perm wW S pm
    have permL : (linksD (both (linkF S order) (order ++ others wW S))).Perm (linksD (both (linkF S order) (List.range S.length))) := (both_perm perm).map _
    have ndD : ((linksD (both (linkF S order) (List.range S.length))).map (·.1)).Nodup := links_nodup (both_nodup List.nodup_range)
    have ndF : ((linksD (both (linkF S order) (order ++ others wW S))).map (·.1)).Nodup := links_nodup (both_nodup (perm.symm.nodup List.nodup_range))
    have shD : ∀ p ∈ linksD (both (linkF S order) (List.range S.length)), SeqAt.shaped p.2 = true := fun p hp => by
      obtain ⟨⟨n, r⟩, hm, rfl⟩ := List.mem_map.mp hp
      exact (fine_pair (link_sh hsh (both_mem.mp hm).2)).shp.shaped (by decide)
    obtain ⟨x, r, eo⟩ : ∃ x r, order = x :: r := by
      cases order with
      | nil => exact absurd rfl one
      | cons x r => exact ⟨x, r, rfl⟩
    have leadF : (Sum.inl (x : Int) : Key) ∉ (linksD (both (linkF S order) (order ++ others wW S))).map (·.1) := links_key fun hm => by
      obtain ⟨⟨m, p⟩, h1, h2⟩ := List.mem_map.mp hm
      have e : m = x := h2
      subst e
      have h3 := (both_mem.mp h1).2
      rw [eo, lead_none] at h3
      cases h3
    have hx0 : (order.map vN)[0]? = some (vN x) := by
      rw [eo]
      rfl
    -- due
    refine ⟨.ref a, rfl, .ref pl, rfl, pl, _, 0, .ref t, rfl, rfl, hP, atI_nat (j := 0) rfl, a, t, S, tl, order, rfl, hA, hO, hB, by omega, by omega, wf, nd, olt, fun H1 D ks s1 fD hD dD => ?_⟩
    -- found
    refine ⟨.ref a, rfl, .ref pl, rfl, a, pl, t, wy, S, tl, order, rfl, same_dp s1 _ _ hA, same_tup s1 hP, same_tup s1 hO, by omega, wf, pm, fun H2 FD ls s2 fF hF dF => ?_⟩
    have hD2 : H2 D = some (.dK ks) := s2 _ _ hD
    have dD2 := tk_dkd (TK.of_same s2) (tupy_links _) dD
    have nFD : FD ≠ D := fun z => by
      rw [z, hD] at fF
      cases fF
    have fF0 : H FD = none := by
      cases z : H FD with
      | none => rfl
      | some o =>
        rw [s1 _ _ z] at fF
        cases fF
    have s02 : Same H H2 := s1.trans s2
    have hP2 := same_tup s02 hP
    have hO2 := same_tup s02 hO
    have hA2 := same_dp s02 _ _ hA
    have hB2 := hB.same s02
    have xin : valV ls (Sum.inl (x : Int)) = none := dkd_none dF leadF
    refine ⟨.ref FD, rfl, .ref FD, .ty "dict", .type "dict", .type "dict", true, rfl, .ty _, .base (.dK hF), kit_ty (by decide +kernel), true, rfl, ?_⟩
    refine iteF ⟨.ref FD, rfl, .ref D, rfl, FD, D, ls, ks, _, _, rfl, rfl, hF, hD2, dF, dD2, ndD, shD, permL, false, rfl, ?_⟩
    refine iteF ⟨.ref pl, rfl, pl, _, 0, .ref t, rfl, rfl, hP2, atI_nat (j := 0) rfl, t, _, 0, vN x, rfl, rfl, hO2, atI_nat (j := 0) hx0, .ref FD, rfl, FD, none, rfl, ?_, false, rfl, ?_⟩
    · rw [← xin]
      exact DGet.k (k := Sum.inl ((x : Nat) : Int)) hF
    refine iteF ?_
    -- the turns
    refine ⟨D, .dK ks, hD2, True.intro, fun od => ?_⟩
    have tkL : TK H2 (upd H2 D (.frz od (.dK ks))) := TK.dict btp_upd hD2
    refine ⟨.ref D, rfl, D, od, rfl, .inl ⟨ks, upd_same, ?_⟩⟩
    refine for_it (walk_keys (d := D) (o := od) (kvs := ks)) (fun i σ H' => ∃ x4, σ = [some (.ref a), some (.ref pl), some (.ref D), some (.ref FD), x4] ∧ Same (upd H2 D (.frz od (.dK ks))) H')
      ⟨none, rfl, Same.refl _⟩ (fun i σ H' _ p => by
        obtain ⟨_, _, sm⟩ := p
        exact sm _ _ upd_same) (fun i y σ H3 H4 hi hp hy => ?_) (fun σ H3 hp => ?_)
    · obtain ⟨x4, rfl, sm⟩ := hp
      obtain ⟨rfl, kk, v, hkv, rfl⟩ := hy
      obtain ⟨d, hLd⟩ := dkd_get dD2 hkv
      obtain ⟨⟨n, p⟩, hm, ed⟩ := List.mem_map.mp (List.mem_of_getElem? hLd)
      cases ed
      obtain ⟨hnr, hnp⟩ := both_mem.mp hm
      have nlt := List.mem_range.mp hnr
      have shp : ShP p := link_sh hsh hnp
      have tk3 : TK H2 H4 := tkL.trans (TK.of_same sm)
      have hD3 : H4 D = some (.frz od (.dK ks)) := sm _ _ upd_same
      have hF3 : H4 FD = some (.dK ls) := sm _ _ (by rw [upd_ne nFD]; exact hF)
      have dD3 := tk_dkd tk3 (tupy_links _) dD2
      have dF3 := tk_dkd tk3 (tupy_links _) dF
      obtain ⟨v1, hv1, dv1⟩ := dkd_val dF3 ndF (permL.mem_iff.mpr (List.mem_of_getElem? hLd))
      obtain ⟨v2, hv2, dv2⟩ := dkd_val dD3 ndD (List.mem_of_getElem? hLd)
      have g1 : DGet H4 FD (vN n) (some v1) := by
        rw [← hv1]
        exact DGet.k (k := Sum.inl ((n : Nat) : Int)) hF3
      have g2 : DGet H4 D (vN n) (some v2) := .inl ⟨ks, Sum.inl ((n : Nat) : Int), .inr ⟨od, hD3⟩, rfl, hv2.symm⟩
      obtain ⟨l1, rfl, _⟩ := pair_at dv1
      obtain ⟨l2, rfl, _⟩ := pair_at dv2
      have fr := (fine_pair shp).repr (by decide) (by decide)
      refine ⟨.ref FD, rfl, vN n, rfl, FD, .ref l1, rfl, g1, l1, pairD p, rfl, dv1, fr, ?_⟩
      refine ⟨.ref D, rfl, vN n, rfl, D, .ref l2, rfl, g2, l2, pairD p, rfl, dv2, fr, ?_⟩
      refine ⟨rfl, _, rfl, ?_⟩
      rw [show (!decide (V.str (pairD p).shown = V.str (pairD p).shown)) = false by rw [decide_eq_true rfl]; rfl]
      refine iteF ⟨.ref a, rfl, vN n, rfl, .ref FD, rfl, vN n, rfl, FD, .ref l1, rfl, g1, .ref pl, rfl, pl, _, 0, .ref t, rfl, rfl, tk_tup tk3 hP2, atI_nat (j := 0) rfl,
        a, l1, t, S, tl, n, order, p, rfl, ?_, dv1, tk_tup tk3 hO2, hB2.tk tk3, by omega, nlt, wf, nd, olt, hsh, hnp, fun H5 s5 => ?_⟩
      · refine tk_dp tk3 _ _ ?_ hA2
        show (tupyAll (S.map srcD) && tupyAll tl) = true
        rw [tupy_srcs, htl]
        rfl
      · exact ⟨true, rfl, iteF ⟨_, rfl, sm.trans s5⟩⟩
    · obtain ⟨x4, rfl, sm⟩ := hp
      have hD3 : H3 D = some (.frz od (.dK ks)) := sm _ _ upd_same
      have s3 : Same H2 (upd H3 D (.dK ks)) := same_unlock hD2 sm
      refine ⟨hD3, ?_⟩
      generalize upd H3 D (.dK ks) = H4 at s3
      have hF4 : H4 FD = some (.dK ls) := s3 _ _ hF
      refine ⟨.ref FD, rfl, .inr (.inr (.inl ⟨rfl, .inl ⟨ls, hF4⟩⟩)), FD, ls, rfl, rfl, hF4, ?_⟩
      have s04 : Same H H4 := s02.trans s3
      have tk5 : TK H4 (upd H4 FD (.dK [])) := TK.dict btp_upd hF4
      have s05 : Same H (upd H4 FD (.dK [])) := same_over fF0 s04
      have hD4 : H4 D = some (.dK ks) := s3 _ _ hD2
      have hD5 : (upd H4 FD (.dK [])) D = some (.dK ks) := by
        rw [upd_ne nFD.symm]
        exact hD4
      have hF5 : (upd H4 FD (.dK [])) FD = some (.dK []) := upd_same
      generalize upd H4 FD (.dK []) = H5 at tk5 s05 hD5 hF5
      refine ⟨.ref FD, rfl, FD, _, rfl, DPut.k (k := Sum.inl (0 : Int)) hF5 (small1000 (by decide)), ?_⟩
      have tk6 : TK H5 (upd H5 FD (.dK (putK [] (Sum.inl (0 : Int)) .non))) := TK.dict btp_upd hF5
      have s06 : Same H (upd H5 FD (.dK (putK [] (Sum.inl (0 : Int)) .non))) := same_over fF0 s05
      have hD6 : (upd H5 FD (.dK (putK [] (Sum.inl (0 : Int)) .non))) D = some (.dK ks) := by
        rw [upd_ne nFD.symm]
        exact hD5
      have dD6 := tk_dkd (((TK.of_same s3).trans tk5).trans tk6) (tupy_links _) dD2
      generalize upd H5 FD (.dK (putK [] (Sum.inl (0 : Int)) .non)) = H6 at s06 hD6 dD6
      refine ⟨.ref pl, rfl, .ref a, rfl, a, pl, t, wy, S, tl, order, rfl, same_dp s06 _ _ hA, same_tup s06 hP, same_tup s06 hO, by omega, wf, pm, fun H7 F2 ms s7 fF2 hF2 dF2 => ?_⟩
      exact ⟨.ref D, rfl, F2, D, ms, ks, _, _, rfl, rfl, hF2, s7 _ _ hD6, dF2, tk_dkd (TK.of_same s7) (tupy_links _) dD6, ndD, shD, permL, q H7 (s06.trans s7)⟩
end
end K19

namespace K19
open PySem PySem.Spec PyProof.Rows L2
/-! ### the law -/
abbrev nLaw : List Str := ["_law_script", "_law_pen_here", "_law_turn", "_law_sources_here", "_law_asked", "_law_beside", "_law_kept", "_law_plans", "_law_chosen"]
theorem scLaw : FnScope nLaw ["_law_script"] (defScope sLaw) := ⟨rfl, rfl, rfl, by decide +kernel, rfl, by decide +kernel, by decide +kernel⟩
def spLaw (K : PySem.W.Frag) : Sp := fun vs H Q _ => ∃ (a : Addr) (ns : List Int), vs = [.ref a] ∧ SqL K H a (ns.map V.int) ∧ ∀ H', Same H H' → Q (.bl true) H'
/-- the rest of the plain ask -/
def tlA : List PyData := [.tuple [], .tuple [.str "rows", .tuple [.tuple [.str "number", .int 1]]], .tuple [], .none, .bool false]
theorem fine_tlA : FA 5 1100 tlA := by
  have n1 : Fine 1 18 (.tuple [.str "number", .int 1]) := Fine.tup (n := 0) (b := 8) (FA.cons (fs "number") (FA.cons (Fine.int (i := 1) (by decide)) FA.nil)) (by decide)
  have n2 : Fine 2 19 (.tuple [.tuple [.str "number", .int 1]]) := Fine.tup (n := 1) (b := 18) (FA.cons n1 FA.nil) (by decide)
  have n3 : Fine 3 40 (.tuple [.str "rows", .tuple [.tuple [.str "number", .int 1]]]) := Fine.tup (n := 2) (b := 19) (FA.cons ((fs "rows").mono (by decide) (by decide)) (FA.cons n2 FA.nil)) (by decide)
  have e0 : Fine 1 0 (.tuple []) := Fine.tup (n := 0) (b := 8) FA.nil (by decide)
  exact FA.cons (e0.mono (by decide) (by decide)) (FA.cons (n3.mono (by decide) (by decide)) (FA.cons (e0.mono (by decide) (by decide)) (FA.cons (Fine.non.mono (by decide) (by decide)) (FA.cons ((Fine.bl false).mono (by decide) (by decide)) FA.nil))))
theorem fine_ask {S : List Sr} {tl : List PyData} (h : ∀ s ∈ S, ShS s) (hl : S.length ≤ 5) (ft : FA 5 1100 tl) (hn : tl.length = 5) : Fine 6 6876 (askD S tl) := by
  refine Fine.tup (n := 5) (b := 1145) (FA.cons ((fine_srcs h hl).mono (by decide) (by decide)) fun d hd => (ft d hd).mono (Nat.le_refl _) (by decide)) ?_
  show (1145 + 1) * (tl.length + 1) ≤ 6876
  rw [hn]
  decide
theorem fine_two {S : List Sr} {tl tl' : List PyData} (h : ∀ s ∈ S, ShS s) (hl : S.length ≤ 5) (ft : FA 5 1100 tl) (hn : tl.length = 5) (ft' : FA 5 1100 tl') (hn' : tl'.length = 5) : Fine 7 13754 (.tuple [askD S tl, askD S tl']) :=
  Fine.tup (n := 6) (b := 6876) (FA.cons (fine_ask h hl ft hn) (FA.cons (fine_ask h hl ft' hn') FA.nil)) (by simp only [List.length_cons, List.length_nil]; decide)
theorem tupy_ask {S : List Sr} {tl : List PyData} (h : tupyAll tl = true) : tupy (askD S tl) = true := by
  show (tupyAll (S.map srcD) && tupyAll tl) = true
  rw [tupy_srcs, h]
  rfl
theorem made_wf {nm : List Str} {n : Nat} {S : List Sr} (m : MadeK nm n S) (nd : nm.Nodup) : Wf S := ⟨by
  show (S.map Src.name).Nodup
  rw [m.names]
  exact (List.take_sublist n nm).nodup nd, fun s hs p hp => by
  show p.als ∈ S.map Src.name
  rw [m.names]
  exact m.als s hs p hp⟩
theorem made_first {nm : List Str} {n : Nat} {S : List Sr} (m : MadeK nm n S) (h : 0 < n) : (0 : Nat) ∈ withs wW S := by
  refine List.mem_filter.mpr ⟨List.mem_range.mpr (by rw [m.len]; exact h), ?_⟩
  exact decide_eq_true (m.first h)
section
variable {P : Program} {w : World} {K : PySem.W.Frag} {mg : Str → Option Value} {base : Heap}
theorem ok_law {f fP fN fS fO fL fR : Addr} {fd fdP fdN fdS fdO fdL fdR : FuncData} {k : Nat} (F : Fun K "law" "law" sLaw f fd)
    (FP : Fun K "_law_pen" "_law_pen" sPen fP fdP) (GP : FnOk P w K mg base CX0 k fP fdP ["_law_script"] (spPen K)) (bP : Binds K fdP ["_law_script"] []) (gP : mg "_law_pen" = some (.ref fP))
    (FN : Fun K "_law_names" "_law_names" sNames fN fdN) (GN : FnOk P w K mg base CX0 k fN fdN ["_law_pen_here", "_law_many"] spNames) (bN : Binds K fdN ["_law_pen_here", "_law_many"] []) (gN : mg "_law_names" = some (.ref fN))
    (FS : Fun K "_law_sources" "_law_sources" sSources fS fdS) (GS : FnOk P w K mg base CX0 k fS fdS ["_law_pen_here", "_law_names_here"] (spSources K)) (bS : Binds K fdS ["_law_pen_here", "_law_names_here"] []) (gS : mg "_law_sources" = some (.ref fS))
    (FO : Fun K "_law_otherwise" "_law_otherwise" sOtherwise fO fdO) (GO : FnOk P w K mg base CX0 k fO fdO ["_law_pen_here", "_law_asked"] (spOtherwise K)) (bO : Binds K fdO ["_law_pen_here", "_law_asked"] []) (gO : mg "_law_otherwise" = some (.ref fO))
    (FL : Fun K "plans_of" "plans_of" sPlans fL fdL) (GL : FnOk P w K mg base CX0 k fL fdL ["ask"] (spPlans K)) (bL : Binds K fdL ["ask"] []) (gL : mg "plans_of" = some (.ref fL))
    (FR : Fun K "_law_right" "_law_right" sRight fR fdR) (GR : FnG P w K mg base k fR fdR ["_law_asked", "_law_chosen"] (spRight K)) (bR : Binds K fdR ["_law_asked", "_law_chosen"] []) (gR : mg "_law_right" = some (.ref fR))
    (ma : mg "range" = none) (mr : mg "repr" = none) : FnG P w K mg base (k + 1) f fd ["_law_script"] (spLaw K) := by
  refine okG F scLaw (fun vs H Q E h => ?_) (fun cdv A outer s H vs Q E hr gd h => ?_)
  · obtain ⟨a, ns, rfl, _⟩ := h
    rfl
  · obtain ⟨a, ns, rfl, hS0, q⟩ := h
    have hu64 : (A.deeper (envOfC "law" (defScope sLaw) s.heap.objs.size f cdv)).units + 64 < cLine := hr.units
    have gdd : (A.deeper (envOfC "law" (defScope sLaw) s.heap.objs.size f cdv)).guards = some [] := gd
    refine ⟨_, pss_cons (ps_set (i := 1) scLaw.nd rfl (.inl rfl) (pe_call GP hr (by rfl) gP FP.kp bP .nil pass0 (pa_cons (pv 0) pa_nil)))
      (pss_cons (ps_for PassesOwn.never rfl (pi_range1 (by rfl) ma (pa_cons pe_int pa_nil)) (pg_name (i := 2) scLaw.nd rfl (Or.inl rfl))
        (pss_cons (ps_set (i := 3) scLaw.nd rfl (.inl rfl) (pe_call GS hr (by rfl) gS FS.kp bS .nil pass0 (pa_cons (pv 1) (pa_cons (pe_call GN hr (by rfl) gN FN.kp bN .nil pass0 (pa_cons (pv 1) (pa_cons pe_int pa_nil))) pa_nil))))
        (pss_cons (ps_set (i := 4) scLaw.nd rfl (.inl rfl) (pe_tup (pa_cons (pv 3) (pa_cons (pe_tup pa_nil) (pa_cons (pe_tup (pa_cons pe_str (pa_cons (pe_tup (pa_cons (pe_tup (pa_cons pe_str (pa_cons pe_int pa_nil))) pa_nil)) pa_nil))) (pa_cons (pe_tup pa_nil) (pa_cons pe_non (pa_cons pe_bl pa_nil))))))))
        (pss_cons (ps_set (i := 5) scLaw.nd rfl (.inl rfl) (pe_call GO hr (by rfl) gO FO.kp bO .nil pass0 (pa_cons (pv 1) (pa_cons (pv 4) pa_nil))))
        (pss_cons (ps_set (i := 6) scLaw.nd rfl (.inl rfl) (pe_callB (call_repr_data gdd hu64) (by rfl) mr (by decide +kernel) (pa_cons (pe_tup (pa_cons (pv 4) (pa_cons (pv 5) pa_nil))) pa_nil)))
        (pss_cons (ps_set (i := 7) scLaw.nd rfl (.inl rfl) (pe_call GL hr (by rfl) gL FL.kp bL .nil pass0 (pa_cons (pv 4) pa_nil)))
        (pss_cons (ps_if (pt_cmpR (op_neD hu64) (pe_call GL hr (by rfl) gL FL.kp bL .nil pass0 (pa_cons (pv 5) pa_nil)) (pv 7) (nomark _)) (pss_one (ps_ret pe_bl)) pss_nil)
        (pss_cons (ps_for PassesOwn.never rfl (pi_list (pv 7)) (pg_name (i := 8) scLaw.nd rfl (Or.inl rfl))
            (pss_one (ps_if (PW.pt (pw_or (pt_not (pt_val (pe_callG (E := E0) GR hr gdd (by rfl) gR FR.kp bR (pa_cons (pv 4) (pa_cons (pv 8) pa_nil))))) (pw_or1 (pt_not (pt_val (pe_callG (E := E0) GR hr gdd (by rfl) gR FR.kp bR (pa_cons (pv 5) (pa_cons (pv 8) pa_nil)))))))) (pss_one (ps_ret pe_bl)) pss_nil)))
        (pss_one (ps_if (pt_cmpR op_ne (pe_callB (call_repr_data gdd hu64) (by rfl) mr (by decide +kernel) (pa_cons (pe_tup (pa_cons (pv 4) (pa_cons (pv 5) pa_nil))) pa_nil)) (pv 6) (nomark _)) (pss_one (ps_ret pe_bl)) pss_nil))))))))))
      (pss_one (ps_ret pe_bl))), ?_⟩
    refine ⟨.ref a, rfl, a, ns, rfl, hS0, fun H1 p C ms s1 fp fC hp1 hC1 => ?_⟩
    have nC : C ≠ p := p3_ne hp1 hC1
    refine ⟨5, rfl, by decide, by decide, ?_⟩
    refine for_range (lo := 0) (n := 5) (fun i σ H' => ∃ (x2 x3 x4 x5 x6 x7 x8 : Option V) (at_ left : Int), σ = [some (.ref a), some (.ref p), x2, x3, x4, x5, x6, x7, x8] ∧ Btp p H1 H' ∧ H' p = some (P3 C at_ left) ∧ 0 ≤ at_ ∧ at_ ≤ 110 * (i : Int) ∧ 0 ≤ left)
      ⟨none, none, none, none, none, none, none, 0, 0, rfl, Btp.refl _ _, hp1, by decide, by decide, by decide⟩ (fun i σ H2 hi hpv => ?_) (fun σ H2 hpv => ?_)
    · obtain ⟨x2, x3, x4, x5, x6, x7, x8, at_, left, rfl, b2, hp2, a0, a1, l0⟩ := hpv
      have i5 : (i : Int) < 5 := by omega
      -- names, sources
      refine ⟨.ref p, rfl, .ref p, rfl, p, C, at_, left, ms, rfl, hp2, b2 _ _ nC hC1, ⟨a0, by omega⟩, l0, fun H3 L nm at1 left1 b3 hp3 e1 e2 l1 fL hL len nd sh => ?_⟩
      refine ⟨p, C, L, at1, left1, ms, nm, rfl, hp3, (b2.trans b3) _ _ nC hC1, ⟨by omega, by omega⟩, l1, hL, len, sh, fun H4 T S n at2 left2 b4 hp4 e3 e4 l2 dT n0 n5 mk => ?_⟩
      have bb4 : Btp p H1 H4 := (b2.trans b3).trans b4
      have wf := made_wf mk nd
      have hsh := mk.sh
      have hlen : S.length ≤ 5 := by
        rw [mk.len]
        exact n5
      have hpos : 0 < S.length := by
        rw [mk.len]
        exact n0
      have hfirst := made_first mk n0
      -- the ask
      refine ⟨.ref T, rfl, Nat.zero_le _, fun E1 hE1 => ?_⟩
      have r1 := same_new (o := .tup []) hE1
      have g1 : Dp K (upd H4 E1 (.tup [])) (.ref E1) (.tuple []) := dp_new upd_same .nil
      generalize upd H4 E1 (.tup []) = H5 at r1 g1
      refine ⟨by show 2 ≤ sizeLine; decide, fun R1 hR1 => ?_⟩
      have r2 := same_new (o := .tup [.str "number", .int 1]) hR1
      have g2 : Dp K (upd H5 R1 (.tup [.str "number", .int 1])) (.ref R1) (.tuple [.str "number", .int 1]) := dp_new upd_same (.cons (.str _) (.cons (.int _) .nil))
      generalize upd H5 R1 (.tup [.str "number", .int 1]) = H6 at r2 g2
      refine ⟨by show 1 ≤ sizeLine; decide, fun R2 hR2 => ?_⟩
      have r3 := same_new (o := .tup [.ref R1]) hR2
      have g3 : Dp K (upd H6 R2 (.tup [.ref R1])) (.ref R2) (.tuple [.tuple [.str "number", .int 1]]) := dp_new upd_same (.cons (same_dp r3 _ _ g2) .nil)
      generalize upd H6 R2 (.tup [.ref R1]) = H7 at r3 g3
      refine ⟨by show 2 ≤ sizeLine; decide, fun R3 hR3 => ?_⟩
      have r4 := same_new (o := .tup [.str "rows", .ref R2]) hR3
      have g4 : Dp K (upd H7 R3 (.tup [.str "rows", .ref R2])) (.ref R3) (.tuple [.str "rows", .tuple [.tuple [.str "number", .int 1]]]) := dp_new upd_same (.cons (.str _) (.cons (same_dp r4 _ _ g3) .nil))
      generalize upd H7 R3 (.tup [.str "rows", .ref R2]) = H8 at r4 g4
      refine ⟨Nat.zero_le _, fun E2 hE2 => ?_⟩
      have r5 := same_new (o := .tup []) hE2
      have g5 : Dp K (upd H8 E2 (.tup [])) (.ref E2) (.tuple []) := dp_new upd_same .nil
      generalize upd H8 E2 (.tup []) = H9 at r5 g5
      refine ⟨by show 6 ≤ sizeLine; decide, fun AK hAK => ?_⟩
      have r6 := same_new (o := .tup [.ref T, .ref E1, .ref R3, .ref E2, .non, .bl false]) hAK
      have r46 := r5.trans r6
      have r26 := (r2.trans r3).trans (r4.trans r46)
      have rAll := r1.trans r26
      have dA : Dp K (upd H9 AK (.tup [.ref T, .ref E1, .ref R3, .ref E2, .non, .bl false])) (.ref AK) (askD S tlA) :=
        dp_new upd_same (.cons (same_dp rAll _ _ dT) (.cons (same_dp r26 _ _ g1) (.cons (same_dp r46 _ _ g4) (.cons (same_dp r6 _ _ g5) (.cons .non (.cons (.bl _) .nil))))))
      have bb10 : Btp p H1 (upd H9 AK (.tup [.ref T, .ref E1, .ref R3, .ref E2, .non, .bl false])) := bb4.trans (Btp.of_same rAll)
      have hp10 := rAll _ _ hp4
      generalize upd H9 AK (.tup [.ref T, .ref E1, .ref R3, .ref E2, .non, .bl false]) = H10 at dA bb10 hp10
      -- told otherwise
      refine ⟨.ref p, rfl, .ref AK, rfl, p, C, AK, at2, left2, ms, S, tlA, rfl, hp10, bb10 _ _ nC hC1, ⟨by omega, by omega⟩, l2, dA, hpos, hsh, fun H11 B tl' at3 left3 b11 hp11 e5 e6 l3 dB fB tB lB => ?_⟩
      have dA11 := tk_dp (TK.of_btp b11 hp10) _ _ (tupy_ask (S := S) (tl := tlA) rfl) dA
      have bb11 := bb10.trans b11
      have fine2 := (fine_two hsh hlen fine_tlA rfl fB lB).repr (by decide) (by decide)
      -- its text
      refine ⟨.ref AK, rfl, .ref B, rfl, by show 2 ≤ sizeLine; decide, fun KT hKT => ?_⟩
      have s12 := same_new (o := .tup [.ref AK, .ref B]) hKT
      refine ⟨KT, .tuple [askD S tlA, askD S tl'], rfl, dp_new upd_same (.cons (same_dp s12 _ _ dA11) (.cons (same_dp s12 _ _ dB) .nil)), fine2, ?_⟩
      have dA12 := same_dp s12 _ _ dA11
      have dB12 := same_dp s12 _ _ dB
      have bb12 := bb11.trans (Btp.of_same s12)
      have hp12 := s12 _ _ hp11
      generalize upd H11 KT (.tup [.ref AK, .ref B]) = H12 at dA12 dB12 bb12 hp12
      -- the plans
      refine ⟨.ref AK, rfl, AK, S, tlA, rfl, dA12, hlen, wf, fun H13 PL as s13 fPL hPL dpl pb => ?_⟩
      refine ⟨.ref B, rfl, B, S, tl', rfl, same_dp s13 _ _ dB12, hlen, wf, fun H14 PM bs s14 fPM hPM dpm _ => ?_⟩
      have shl : SeqAt.shaped (.list ((plans 5 wW S).map planD)) = true := (Shp.lst (n := 2) fun d hd => by
        obtain ⟨z, _, rfl⟩ := List.mem_map.mp hd
        exact shp_plan z).shaped (by decide)
      have hPL14 := s14 _ _ hPL
      refine ⟨.ref PL, rfl, .list ((plans 5 wW S).map planD), .list ((plans 5 wW S).map planD), .lst (SqL.of hPM) dpm, .lst (SqL.of hPL14) (same_dpAll s14 _ _ dpl), shl, shl, _, rfl, ?_⟩
      rw [SeqAt.eqv_refl _ (Shp.lst (n := 2) fun d hd => by
        obtain ⟨z, _, rfl⟩ := List.mem_map.mp hd
        exact shp_plan z).lay]
      refine iteF ?_
      have s24 : Same H12 H14 := s13.trans s14
      have pb14 := pb.tk (TK.of_same s14)
      -- each plan
      refine ⟨.ref PL, rfl, PL, rfl, ⟨_, SqL.of hPL14⟩, ?_⟩
      refine for_list (K := K) (a := PL) (xs := as) (fun j σ H' => ∃ x8, σ = [some (.ref a), some (.ref p), some (.int (0 + (i : Int))), some (.ref T), some (.ref AK), some (.ref B), some (.str (PyData.tuple [askD S tlA, askD S tl']).shown), some (.ref PL), x8] ∧ Same H14 H')
        ⟨x8, rfl, Same.refl _⟩ (fun j σ H' _ z => by
          obtain ⟨_, _, sm⟩ := z
          exact SqL.of (sm _ _ hPL14)) (fun j y σ H15 hx z => ?_) (fun σ H15 z => ?_)
      · obtain ⟨y8, rfl, sm⟩ := z
        obtain ⟨pq, pl, t, wy, hpq, rfl, k1, k2, k3⟩ := pb14.get hx
        have pm : pq.1.Perm (withs wW S) := plans_perm (Nat.le_trans (withs_le wW S) hlen) (o := pq.1) (b := pq.2) (List.mem_of_getElem? hpq)
        have ne : pq.1 ≠ [] := fun z => by
          have := pm.mem_iff.mpr hfirst
          rw [z] at this
          cases this
        have s25 := s24.trans sm
        refine ⟨.ref AK, rfl, .ref pl, rfl, AK, pl, t, wy, S, tlA, pq.1, rfl, same_dp s25 _ _ dA12, rfl, same_tup sm k1, same_tup sm k2, k3.same sm, pm, ne, wf, hsh, hlen, fun H16 s16 => ⟨true, rfl, iteF ?_⟩⟩
        have sm6 := sm.trans s16
        exact ⟨.ref B, rfl, .ref pl, rfl, B, pl, t, wy, S, tl', pq.1, rfl, same_dp (s25.trans s16) _ _ dB12, tB, same_tup sm6 k1, same_tup sm6 k2, k3.same sm6, pm, ne, wf, hsh, hlen, fun H17 s17 => ⟨true, rfl, iteF ⟨_, rfl, sm6.trans s17⟩⟩⟩
      · obtain ⟨y8, rfl, sm⟩ := z
        have s25 := s24.trans sm
        refine ⟨.ref AK, rfl, .ref B, rfl, by show 2 ≤ sizeLine; decide, fun K2 hK2 => ?_⟩
        have s16 := same_new (o := .tup [.ref AK, .ref B]) hK2
        have s26 := s25.trans s16
        refine ⟨K2, .tuple [askD S tlA, askD S tl'], rfl, dp_new upd_same (.cons (same_dp s26 _ _ dA12) (.cons (same_dp s26 _ _ dB12) .nil)), fine2, _, rfl, rfl, _, rfl, ?_⟩
        rw [show (!decide (V.str (PyData.tuple [askD S tlA, askD S tl']).shown = V.str (PyData.tuple [askD S tlA, askD S tl']).shown)) = false by rw [decide_eq_true rfl]; rfl]
        exact iteF ⟨_, _, _, _, _, _, _, at3, left3, rfl, bb12.trans (Btp.of_same s26), s26 _ _ hp12, by omega, by omega, l3⟩
    · obtain ⟨x2, x3, x4, x5, x6, x7, x8, at_, left, rfl, b2, hp2, a0, a1, l0⟩ := hpv
      exact q H2 fun b o e => b2 b o (ne_of_none e fp) (s1 _ _ e)
end
end K19

namespace K19
open PySem PySem.Spec PyProof.Rows L2
/-! ### the head, for a def around which no repr runs -/
/-- a told heap in which at most the script at a is tracked -/
structure Told (P : Program) (w : World) (K : PySem.W.Frag) (s : Shared) (a : Addr) (ns : List Int) (H : Hp) : Prop where
  one : ∀ b, H b ≠ none → b = a
  free : ∀ b, H b ≠ none → K.lookup b = none
  only : Only H
  seq : SqL K H a (ns.map V.int)
  ok : HOk P w H s.heap
theorem told_ex {P : Program} {w : World} {K : PySem.W.Frag} {s : Shared} {a : Addr} {vs : List Value} {ns : List Int} (X : K.In s.heap) (at_ : s.heap.get? a = some { cls := .type "list", data := .seq vs.toArray }) (hints : IntsAre vs ns) (few : ns.length ≤ sizeLine) : ∃ H, Told P w K s a ns H := by
  have rel := vals_ints hints
  have same := hints.length
  cases own : K.lookup a with
  | some o =>
    have e := (X a o own).symm.trans at_
    obtain rfl := Option.some.inj e
    exact ⟨fun _ => none, fun _ z => absurd rfl z, fun _ z => absurd rfl z, fun _ => .inl rfl, .inr ⟨_, vs.toArray, _, own, rfl, rfl, rfl, by rw [List.size_toArray, same]; exact few, by simpa using rel⟩, fun _ _ z => nomatch z⟩
  | none =>
    have off : ∀ b, b ≠ a → (if b = a then some (HO.frz { cls := .type "list", data := .seq vs.toArray } (.lst (ns.map V.int))) else none) = none := fun b n => if_neg n
    have is_a : ∀ b, (if b = a then some (HO.frz { cls := .type "list", data := .seq vs.toArray } (.lst (ns.map V.int))) else none) ≠ none → b = a := fun b z => Decidable.byContradiction fun n => z (off b n)
    refine ⟨fun b => if b = a then some (.frz { cls := .type "list", data := .seq vs.toArray } (.lst (ns.map V.int))) else none, is_a, fun b z => by rw [is_a b z]; exact own, fun b => ?_, .inl (.inr ⟨{ cls := .type "list", data := .seq vs.toArray }, if_pos rfl⟩), fun b u z => ?_⟩
    · by_cases n : b = a
      · exact Or.inr ⟨_, _, if_pos n⟩
      · exact Or.inl (off b n)
    · have n : b = a := is_a b fun e => nomatch e.symm.trans z
      subst n
      obtain rfl := Option.some.inj ((if_pos rfl).symm.trans z)
      exact ⟨at_, (List.length_map (as := ns) V.int).symm ▸ few, vs, _, rel, at_⟩
theorem told_run {P : Program} {w : World} {K : PySem.W.Frag} {mg mb : Str → Option Value} {k : Nat} {fa a : Addr} {fd : FuncData} {x : Str} {sp : Sp} {s : Shared} {ns : List Int} {H : Hp} (T : Told P w K s a ns H)
    (X : K.In s.heap) (glob : s.heap.Ns mainGlobals mg) (blt : s.heap.Ns builtinsNs mb) (boot : ∀ x : Str, x ≠ "__name__" → mb x = bootBuiltins x) (lim : s.heap.NoLimit) (calm : s.gens = #[]) (room : Room k callerA)
    (notDict : ∀ es ep o, s.heap.get? a = some o → o.data ≠ .dict es ep)
    (F : ∀ g : Heap, K.In g → g.Ns mainGlobals mg → FnG P w K mg g k fa fd [x] sp) (bind : ∀ (t : Shared) (u : Value), BindsTo t fd ⟨[u], []⟩ [(x, u)])
    (want : sp [.ref a] H (fun v _ => v = .bl true) fun _ _ _ => False) :
    codeAny (model P w) callerA (.call (.ref fa) ⟨[.ref a], []⟩) (fun r t => r = .ok (.ret (.bool true)) ∧ OldK s.heap t.heap ∧ t.os = s.os ∧ AllBare t.gens) s := by
  have gone : ∀ {b : Addr} {o : Obj} {es : Array DictEntry} {ep : Nat}, s.heap.get? b = some o → o.data = .dict es ep → H b = none := fun {b o es ep} e d => Decidable.byContradiction fun z => by
    have n := T.one b z
    subst n
    exact notDict _ _ _ e d
  have ns_of : ∀ {b : Addr} {m : Str → Option Value}, s.heap.Ns b m → (hidT s.heap H).Ns b m := fun ⟨o, es, ep, e, d, r⟩ => ⟨o, es, ep, hidT_get e (gone e d), d, r⟩
  have inG : K.In (hidT s.heap H) := fun b o e => hidT_get (X b o e) (Decidable.byContradiction fun z => by
    rw [T.free b z] at e
    cases e)
  have md : Mod K mg (hidT s.heap H) := ⟨inG, ns_of glob, ⟨mb, ns_of blt, boot⟩, by
    obtain ⟨mc, n1, n2⟩ := lim
    exact ⟨mc, ns_of n1, n2⟩⟩
  have e0 : Env0 P w K mg (hidT s.heap H) callerA [] s H := by
    refine ⟨rfl, md, fun _ _ e => of_hidT e, Nat.le_of_eq (hidT_size _ _), trivial, fun b hb => ?_, T.ok, .of_eq calm⟩
    have hb' : b ∈ ([] : List Addr) := hb
    cases hb'
  have ran := (F _ inG (ns_of glob)).run callerA [] s H ⟨[.ref a], []⟩ [.ref a] [.ref a] _ _ room rfl e0 (bind s (.ref a)) (.cons rfl .nil) want
  refine codeAny_mono ran fun r t z => ?_
  match r, z with
  | .error _, z => exact z.elim
  | .ok .next, z => exact z.elim
  | .ok .brk, z => exact z.elim
  | .ok .cont, z => exact z.elim
  | .ok (.ret u), z =>
    obtain ⟨v, H', os, bare, un, ok', rv, ev⟩ := z
    obtain rfl : v = .bl true := ev
    obtain rfl : u = Value.bool true := rv
    refine ⟨rfl, OldK.of_keep fun b o e => ?_, os, bare⟩
    rcases T.only b with n | ⟨ob, xs, n⟩
    · refine un.keep b o e n (fun m => ?_) (by simp)
      have m' : b ∈ ([] : List Addr) := m
      cases m'
    · have g1 := (T.ok b _ n).1
      have g2 := (ok' b _ (un.frzs b ob _ n)).1
      exact g2.trans (g1.symm.trans e)
/-- what k_head leaves, from such a promise -/
theorem walkG {l : PySem.W.OpenLaw} {n k : Nat} {q : Program} {loose : List Str} {XP : (Str → Option Value) → Heap → Prop} {YP : World → Heap → Prop} {d : DefRec} {K : Params → PySem.W.Frag} {x : Str}
    (most : l.most = some n) (few : n ≤ sizeLine) (plain : d.params.defaults = []) (room : Room k callerA) (inK : ∀ (w : World) (h : Heap), YP w h → (K w.params).In h)
    (F : ∀ (w : World) (mg : Str → Option Value) (fa : Addr) (h : Heap), (K w.params).In h → h.Ns mainGlobals mg → mg d.name = some (.ref fa) → ∃ fd : FuncData, (∀ (s : Shared) (u : Value), BindsTo s fd ⟨[u], []⟩ [(x, u)]) ∧
      ∀ g : Heap, (K w.params).In g → g.Ns mainGlobals mg → FnG l.prog w (K w.params) mg g k fa fd [x] (spLaw (K w.params))) :
    PySem.W.WalkO q loose XP YP l.row.toRowW d [] (fun f vs => PySem.call f vs) := by
  refine Att.attach_call most plain fun w s0 s1 mg mb fa o pm cd doc a vs ns G Y ho hd hcd at_mg at_ hints len calm => ?_
  have X := inK w _ Y
  obtain ⟨fd, bind, hF⟩ := F w mg fa _ X G.T.g at_mg
  obtain ⟨H, T⟩ := told_ex (P := l.prog) (w := w) X at_ hints (Nat.le_trans len few)
  refine told_run T X G.T.g G.T.b G.T.builtins G.T.nolimit calm room (fun es ep o' e d' => ?_) hF bind ⟨a, ns, rfl, T.seq, fun _ _ => rfl⟩
  obtain rfl := Option.some.inj (e.symm.trans at_)
  cases d'
end K19

namespace K19
open PySem PySem.Spec PyProof.Rows L2
/-! ### what the top has written -/
theorem law_at {P : Program} {w : World} {K : PySem.W.Frag} {h : Heap} {mg : Str → Option Value} {fa : Addr} (X : K.In h) (G : h.Ns mainGlobals mg) (hfa : mg "law" = some (.ref fa))
    {f1 : Addr} {od1 an1 : Option Addr} {sl1 : Array (Option Value)} {oc1 kV1 dc1 pm1 cd1 ct1 : Value} (a1 : PySem.W.nsIn K mainGlobals "with_numbers" = some (some (.ref f1)))
    (l1 : K.lookup f1 = some ⟨oc1, od1, .func (PySem.W.fnOf "with_numbers" "with_numbers" (defArgs sWith) (defBody sWith) (defScope sWith) .none kV1 dc1 pm1 an1 cd1 ct1), sl1⟩) (c1 : PySem.W.codeIn K cd1 "with_numbers" = true) (k1 : PySem.W.keepIn K (.ref f1) = true)
    {f2 : Addr} {od2 an2 : Option Addr} {sl2 : Array (Option Value)} {oc2 kV2 dc2 pm2 cd2 ct2 : Value} (a2 : PySem.W.nsIn K mainGlobals "other_numbers" = some (some (.ref f2)))
    (l2 : K.lookup f2 = some ⟨oc2, od2, .func (PySem.W.fnOf "other_numbers" "other_numbers" (defArgs sOther) (defBody sOther) (defScope sOther) .none kV2 dc2 pm2 an2 cd2 ct2), sl2⟩) (c2 : PySem.W.codeIn K cd2 "other_numbers" = true) (k2 : PySem.W.keepIn K (.ref f2) = true)
    {f3 : Addr} {od3 an3 : Option Addr} {sl3 : Array (Option Value)} {oc3 kV3 dc3 pm3 cd3 ct3 : Value} (a3 : PySem.W.nsIn K mainGlobals "orders_of" = some (some (.ref f3)))
    (l3 : K.lookup f3 = some ⟨oc3, od3, .func (PySem.W.fnOf "orders_of" "orders_of" (defArgs sOrders) (defBody sOrders) (defScope sOrders) .none kV3 dc3 pm3 an3 cd3 ct3), sl3⟩) (c3 : PySem.W.codeIn K cd3 "orders_of" = true) (k3 : PySem.W.keepIn K (.ref f3) = true)
    {f4 : Addr} {od4 an4 : Option Addr} {sl4 : Array (Option Value)} {oc4 kV4 dc4 pm4 cd4 ct4 : Value} (a4 : PySem.W.nsIn K mainGlobals "link_to" = some (some (.ref f4)))
    (l4 : K.lookup f4 = some ⟨oc4, od4, .func (PySem.W.fnOf "link_to" "link_to" (defArgs sLinkTo) (defBody sLinkTo) (defScope sLinkTo) .none kV4 dc4 pm4 an4 cd4 ct4), sl4⟩) (c4 : PySem.W.codeIn K cd4 "link_to" = true) (k4 : PySem.W.keepIn K (.ref f4) = true)
    {f5 : Addr} {od5 an5 : Option Addr} {sl5 : Array (Option Value)} {oc5 kV5 dc5 pm5 cd5 ct5 : Value} (a5 : PySem.W.nsIn K mainGlobals "links_of" = some (some (.ref f5)))
    (l5 : K.lookup f5 = some ⟨oc5, od5, .func (PySem.W.fnOf "links_of" "links_of" (defArgs sLinksOf) (defBody sLinksOf) (defScope sLinksOf) .none kV5 dc5 pm5 an5 cd5 ct5), sl5⟩) (c5 : PySem.W.codeIn K cd5 "links_of" = true) (k5 : PySem.W.keepIn K (.ref f5) = true)
    {f6 : Addr} {od6 an6 : Option Addr} {sl6 : Array (Option Value)} {oc6 kV6 dc6 pm6 cd6 ct6 : Value} (a6 : PySem.W.nsIn K mainGlobals "plans_of" = some (some (.ref f6)))
    (l6 : K.lookup f6 = some ⟨oc6, od6, .func (PySem.W.fnOf "plans_of" "plans_of" (defArgs sPlans) (defBody sPlans) (defScope sPlans) .none kV6 dc6 pm6 an6 cd6 ct6), sl6⟩) (c6 : PySem.W.codeIn K cd6 "plans_of" = true) (k6 : PySem.W.keepIn K (.ref f6) = true)
    {f7 : Addr} {od7 an7 : Option Addr} {sl7 : Array (Option Value)} {oc7 kV7 dc7 pm7 cd7 ct7 : Value} (a7 : PySem.W.nsIn K mainGlobals "_law_pen" = some (some (.ref f7)))
    (l7 : K.lookup f7 = some ⟨oc7, od7, .func (PySem.W.fnOf "_law_pen" "_law_pen" (defArgs sPen) (defBody sPen) (defScope sPen) .none kV7 dc7 pm7 an7 cd7 ct7), sl7⟩) (c7 : PySem.W.codeIn K cd7 "_law_pen" = true) (k7 : PySem.W.keepIn K (.ref f7) = true)
    {f8 : Addr} {od8 an8 : Option Addr} {sl8 : Array (Option Value)} {oc8 kV8 dc8 pm8 cd8 ct8 : Value} (a8 : PySem.W.nsIn K mainGlobals "_law_take" = some (some (.ref f8)))
    (l8 : K.lookup f8 = some ⟨oc8, od8, .func (PySem.W.fnOf "_law_take" "_law_take" (defArgs sTake) (defBody sTake) (defScope sTake) .none kV8 dc8 pm8 an8 cd8 ct8), sl8⟩) (c8 : PySem.W.codeIn K cd8 "_law_take" = true) (k8 : PySem.W.keepIn K (.ref f8) = true)
    {f9 : Addr} {od9 an9 : Option Addr} {sl9 : Array (Option Value)} {oc9 kV9 dc9 pm9 cd9 ct9 : Value} (a9 : PySem.W.nsIn K mainGlobals "_law_names" = some (some (.ref f9)))
    (l9 : K.lookup f9 = some ⟨oc9, od9, .func (PySem.W.fnOf "_law_names" "_law_names" (defArgs sNames) (defBody sNames) (defScope sNames) .none kV9 dc9 pm9 an9 cd9 ct9), sl9⟩) (c9 : PySem.W.codeIn K cd9 "_law_names" = true) (k9 : PySem.W.keepIn K (.ref f9) = true)
    {f10 : Addr} {od10 an10 : Option Addr} {sl10 : Array (Option Value)} {oc10 kV10 dc10 pm10 cd10 ct10 : Value} (a10 : PySem.W.nsIn K mainGlobals "_law_sources" = some (some (.ref f10)))
    (l10 : K.lookup f10 = some ⟨oc10, od10, .func (PySem.W.fnOf "_law_sources" "_law_sources" (defArgs sSources) (defBody sSources) (defScope sSources) .none kV10 dc10 pm10 an10 cd10 ct10), sl10⟩) (c10 : PySem.W.codeIn K cd10 "_law_sources" = true) (k10 : PySem.W.keepIn K (.ref f10) = true)
    {f11 : Addr} {od11 an11 : Option Addr} {sl11 : Array (Option Value)} {oc11 kV11 dc11 pm11 cd11 ct11 : Value} (a11 : PySem.W.nsIn K mainGlobals "_law_link" = some (some (.ref f11)))
    (l11 : K.lookup f11 = some ⟨oc11, od11, .func (PySem.W.fnOf "_law_link" "_law_link" (defArgs sLink) (defBody sLink) (defScope sLink) .none kV11 dc11 pm11 an11 cd11 ct11), sl11⟩) (c11 : PySem.W.codeIn K cd11 "_law_link" = true) (k11 : PySem.W.keepIn K (.ref f11) = true)
    {f12 : Addr} {od12 an12 : Option Addr} {sl12 : Array (Option Value)} {oc12 kV12 dc12 pm12 cd12 ct12 : Value} (a12 : PySem.W.nsIn K mainGlobals "_law_links" = some (some (.ref f12)))
    (l12 : K.lookup f12 = some ⟨oc12, od12, .func (PySem.W.fnOf "_law_links" "_law_links" (defArgs sLinks) (defBody sLinks) (defScope sLinks) .none kV12 dc12 pm12 an12 cd12 ct12), sl12⟩) (c12 : PySem.W.codeIn K cd12 "_law_links" = true) (k12 : PySem.W.keepIn K (.ref f12) = true)
    {f13 : Addr} {od13 an13 : Option Addr} {sl13 : Array (Option Value)} {oc13 kV13 dc13 pm13 cd13 ct13 : Value} (a13 : PySem.W.nsIn K mainGlobals "_law_stands" = some (some (.ref f13)))
    (l13 : K.lookup f13 = some ⟨oc13, od13, .func (PySem.W.fnOf "_law_stands" "_law_stands" (defArgs sStands) (defBody sStands) (defScope sStands) .none kV13 dc13 pm13 an13 cd13 ct13), sl13⟩) (c13 : PySem.W.codeIn K cd13 "_law_stands" = true) (k13 : PySem.W.keepIn K (.ref f13) = true)
    {f14 : Addr} {od14 an14 : Option Addr} {sl14 : Array (Option Value)} {oc14 kV14 dc14 pm14 cd14 ct14 : Value} (a14 : PySem.W.nsIn K mainGlobals "_law_otherwise" = some (some (.ref f14)))
    (l14 : K.lookup f14 = some ⟨oc14, od14, .func (PySem.W.fnOf "_law_otherwise" "_law_otherwise" (defArgs sOtherwise) (defBody sOtherwise) (defScope sOtherwise) .none kV14 dc14 pm14 an14 cd14 ct14), sl14⟩) (c14 : PySem.W.codeIn K cd14 "_law_otherwise" = true) (k14 : PySem.W.keepIn K (.ref f14) = true)
    {f15 : Addr} {od15 an15 : Option Addr} {sl15 : Array (Option Value)} {oc15 kV15 dc15 pm15 cd15 ct15 : Value} (a15 : PySem.W.nsIn K mainGlobals "_law_right" = some (some (.ref f15)))
    (l15 : K.lookup f15 = some ⟨oc15, od15, .func (PySem.W.fnOf "_law_right" "_law_right" (defArgs sRight) (defBody sRight) (defScope sRight) .none kV15 dc15 pm15 an15 cd15 ct15), sl15⟩) (c15 : PySem.W.codeIn K cd15 "_law_right" = true) (k15 : PySem.W.keepIn K (.ref f15) = true)
    {f16 : Addr} {od16 an16 : Option Addr} {sl16 : Array (Option Value)} {oc16 kV16 dc16 pm16 cd16 ct16 : Value} (a16 : PySem.W.nsIn K mainGlobals "law" = some (some (.ref f16)))
    (l16 : K.lookup f16 = some ⟨oc16, od16, .func (PySem.W.fnOf "law" "law" (defArgs sLaw) (defBody sLaw) (defScope sLaw) .none kV16 dc16 pm16 an16 cd16 ct16), sl16⟩) (c16 : PySem.W.codeIn K cd16 "law" = true) (k16 : PySem.W.keepIn K (.ref f16) = true)
    {t1 : Tok} (v1 : PySem.W.nsIn K mainGlobals "KEPT" = some (some (.str "kept" t1)))
    {t2 : Tok} (v2 : PySem.W.nsIn K mainGlobals "WALKED" = some (some (.str "walked" t2)))
    (z1 : PySem.W.nsIn K mainGlobals "enumerate" = some none)
    (z2 : PySem.W.nsIn K mainGlobals "len" = some none)
    (z3 : PySem.W.nsIn K mainGlobals "abs" = some none)
    (z4 : PySem.W.nsIn K mainGlobals "int" = some none)
    (z5 : PySem.W.nsIn K mainGlobals "range" = some none)
    (z6 : PySem.W.nsIn K mainGlobals "min" = some none)
    (z7 : PySem.W.nsIn K mainGlobals "tuple" = some none)
    (z8 : PySem.W.nsIn K mainGlobals "isinstance" = some none)
    (z9 : PySem.W.nsIn K mainGlobals "dict" = some none)
    (z10 : PySem.W.nsIn K mainGlobals "repr" = some none)
    : ∃ fd : FuncData, (∀ (s : Shared) (v : Value), BindsTo s fd ⟨[v], []⟩ [("_law_script", v)]) ∧ ∀ g : Heap, K.In g → g.Ns mainGlobals mg → FnG P w K mg g 9 fa fd ["_law_script"] (spLaw K) := by
  have e := hfa.symm.trans (PySem.W.mg_of X G a16)
  cases e
  have F1 := fun_mk (st := sWith) l1 c1 k1
  have g1 := PySem.W.mg_of X G a1
  have b1 := F1.binds (ps := ["ask"]) fun _ _ _ _ _ _ us hl => match us, hl with | [_], _ => rfl
  have F2 := fun_mk (st := sOther) l2 c2 k2
  have g2 := PySem.W.mg_of X G a2
  have b2 := F2.binds (ps := ["ask"]) fun _ _ _ _ _ _ us hl => match us, hl with | [_], _ => rfl
  have F3 := fun_mk (st := sOrders) l3 c3 k3
  have g3 := PySem.W.mg_of X G a3
  have b3 := F3.binds (ps := ["numbers"]) fun _ _ _ _ _ _ us hl => match us, hl with | [_], _ => rfl
  have F4 := fun_mk (st := sLinkTo) l4 c4 k4
  have g4 := PySem.W.mg_of X G a4
  have b4 := F4.binds (ps := ["ask", "number", "ahead"]) fun _ _ _ _ _ _ us hl => match us, hl with | [_, _, _], _ => rfl
  have F5 := fun_mk (st := sLinksOf) l5 c5 k5
  have g5 := PySem.W.mg_of X G a5
  have b5 := F5.binds (ps := ["ask", "plan"]) fun _ _ _ _ _ _ us hl => match us, hl with | [_, _], _ => rfl
  have F6 := fun_mk (st := sPlans) l6 c6 k6
  have g6 := PySem.W.mg_of X G a6
  have b6 := F6.binds (ps := ["ask"]) fun _ _ _ _ _ _ us hl => match us, hl with | [_], _ => rfl
  have F7 := fun_mk (st := sPen) l7 c7 k7
  have g7 := PySem.W.mg_of X G a7
  have b7 := F7.binds (ps := ["_law_script"]) fun _ _ _ _ _ _ us hl => match us, hl with | [_], _ => rfl
  have F8 := fun_mk (st := sTake) l8 c8 k8
  have g8 := PySem.W.mg_of X G a8
  have b8 := F8.binds (ps := ["_law_pen_here", "_law_many"]) fun _ _ _ _ _ _ us hl => match us, hl with | [_, _], _ => rfl
  have F9 := fun_mk (st := sNames) l9 c9 k9
  have g9 := PySem.W.mg_of X G a9
  have b9 := F9.binds (ps := ["_law_pen_here", "_law_many"]) fun _ _ _ _ _ _ us hl => match us, hl with | [_, _], _ => rfl
  have F10 := fun_mk (st := sSources) l10 c10 k10
  have g10 := PySem.W.mg_of X G a10
  have b10 := F10.binds (ps := ["_law_pen_here", "_law_names_here"]) fun _ _ _ _ _ _ us hl => match us, hl with | [_, _], _ => rfl
  have F11 := fun_mk (st := sLink) l11 c11 k11
  have g11 := PySem.W.mg_of X G a11
  have b11 := F11.binds (ps := ["_law_asked", "_law_number", "_law_ahead"]) fun _ _ _ _ _ _ us hl => match us, hl with | [_, _, _], _ => rfl
  have F12 := fun_mk (st := sLinks) l12 c12 k12
  have g12 := PySem.W.mg_of X G a12
  have b12 := F12.binds (ps := ["_law_asked", "_law_order"]) fun _ _ _ _ _ _ us hl => match us, hl with | [_, _], _ => rfl
  have F13 := fun_mk (st := sStands) l13 c13 k13
  have g13 := PySem.W.mg_of X G a13
  have b13 := F13.binds (ps := ["_law_asked", "_law_number", "_law_link_here", "_law_order"]) fun _ _ _ _ _ _ us hl => match us, hl with | [_, _, _, _], _ => rfl
  have F14 := fun_mk (st := sOtherwise) l14 c14 k14
  have g14 := PySem.W.mg_of X G a14
  have b14 := F14.binds (ps := ["_law_pen_here", "_law_asked"]) fun _ _ _ _ _ _ us hl => match us, hl with | [_, _], _ => rfl
  have F15 := fun_mk (st := sRight) l15 c15 k15
  have g15 := PySem.W.mg_of X G a15
  have b15 := F15.binds (ps := ["_law_asked", "_law_chosen"]) fun _ _ _ _ _ _ us hl => match us, hl with | [_, _], _ => rfl
  have F16 := fun_mk (st := sLaw) l16 c16 k16
  have y1 := PySem.W.mg_of X G v1
  have y2 := PySem.W.mg_of X G v2
  have m_enumerate := PySem.W.mg_none_of X G z1
  have m_len := PySem.W.mg_none_of X G z2
  have m_abs := PySem.W.mg_none_of X G z3
  have m_int := PySem.W.mg_none_of X G z4
  have m_range := PySem.W.mg_none_of X G z5
  have m_min := PySem.W.mg_none_of X G z6
  have m_tuple := PySem.W.mg_none_of X G z7
  have m_isinstance := PySem.W.mg_none_of X G z8
  have m_dict := PySem.W.mg_none_of X G z9
  have m_repr := PySem.W.mg_none_of X G z10
  refine ⟨PySem.W.fnOf "law" "law" (defArgs sLaw) (defBody sLaw) (defScope sLaw) .none kV16 dc16 pm16 an16 cd16 ct16, fun s v => .of_eq rfl, fun base _ _ => ?_⟩
  have T := fun k : Nat => ok_take (P := P) (w := w) (mg := mg) (base := base) (k := k) F8 m_len m_abs m_int
  have GP := ok_pen (P := P) (w := w) (mg := mg) (base := base) (k := 7) F7
  have GN := ok_names (P := P) (w := w) (mg := mg) (base := base) (k := 6) F9 F8 (T 6) b8 g8 m_range
  have GS := ok_sources (P := P) (w := w) (mg := mg) (base := base) (kk := 6) F10 F8 (T 6) b8 g8 m_min m_range m_int m_len m_tuple
  have GO := ok_otherwise (P := P) (w := w) (mg := mg) (base := base) (k := 6) F14 F8 (T 6) b8 g8
  have LT := fun k : Nat => ok_linkTo (P := P) (w := w) (mg := mg) (base := base) (k := k) F4 m_enumerate
  have ON := fun k : Nat => ok_other (P := P) (w := w) (mg := mg) (base := base) (k := k) F2 m_enumerate
  have LO := fun k : Nat => ok_linksOf (P := P) (w := w) (mg := mg) (base := base) (k := k) F5 F4 (LT k) b4 g4 F2 (ON k) b2 g2 m_enumerate
  have OO := ok_orders (P := P) (w := w) (mg := mg) (base := base) F3 b3 g3 5 (Nat.le_refl _)
  have WN := ok_with (P := P) (w := w) (mg := mg) (base := base) (k := 5) F1 m_enumerate
  have PL := ok_plans (P := P) (w := w) (mg := mg) (base := base) F6 F5 (LO 4) b5 g5 F3 OO b3 g3 F1 WN b1 g1 y1 y2
  have LL := ok_lawLink (P := P) (w := w) (mg := mg) (base := base) (k := 5) F11 m_enumerate
  have LS := ok_lawLinks (P := P) (w := w) (mg := mg) (base := base) (k := 5) F12 F11 LL b11 g11 m_enumerate
  have ST := ok_stands (P := P) (w := w) (mg := mg) (base := base) (k := 6) F13
  have RT := ok_right (P := P) (w := w) (mg := mg) (base := base) (k := 7) F15 F5 (LO 5) b5 g5 F12 LS b12 g12 F13 ST b13 g13 m_isinstance m_dict m_repr
  exact ok_law F16 F7 GP b7 g7 F9 GN b9 g9 F10 GS b10 g10 F14 GO b14 g14 F6 (PL.mono (by decide)) b6 g6 F15 RT b15 g15 m_range m_repr
end K19
open PySem PySem.W PyProof.Rows
set_option maxHeartbeats 0 in
theorem PySem.Challenge.cw_plansamid_k19_whole_links_of_every_plan_holds : PySem.Challenge.rw_plansamid_k19_whole_links_of_every_plan.Holds := by
  w_on; o_law; k_head; (case hw => w_witness2)
  k_fill
  refine K19.walkG (l := PySem.Challenge.rw_plansamid_k19_whole_links_of_every_plan) (n := 63) (k := 9) (x := "_law_script") rfl (by decide) rfl ⟨rfl, by decide, by decide⟩ (fun w h Y => PySem.W.kIn_of Y) ?F
  case F =>
    intro w mg fa h KX G hmg
    refine' K19.law_at KX G hmg ?a1 ?l1 ?c1 ?k1 ?a2 ?l2 ?c2 ?k2 ?a3 ?l3 ?c3 ?k3 ?a4 ?l4 ?c4 ?k4 ?a5 ?l5 ?c5 ?k5 ?a6 ?l6 ?c6 ?k6 ?a7 ?l7 ?c7 ?k7 ?a8 ?l8 ?c8 ?k8 ?a9 ?l9 ?c9 ?k9 ?a10 ?l10 ?c10 ?k10 ?a11 ?l11 ?c11 ?k11 ?a12 ?l12 ?c12 ?k12 ?a13 ?l13 ?c13 ?k13 ?a14 ?l14 ?c14 ?k14 ?a15 ?l15 ?c15 ?k15 ?a16 ?l16 ?c16 ?k16 ?v1 ?v2 ?z1 ?z2 ?z3 ?z4 ?z5 ?z6 ?z7 ?z8 ?z9 ?z10
    (case a1 => k_is)
    (case l1 => k_is)
    (case c1 => k_is)
    (case k1 => k_is)
    (case a2 => k_is)
    (case l2 => k_is)
    (case c2 => k_is)
    (case k2 => k_is)
    (case a3 => k_is)
    (case l3 => k_is)
    (case c3 => k_is)
    (case k3 => k_is)
    (case a4 => k_is)
    (case l4 => k_is)
    (case c4 => k_is)
    (case k4 => k_is)
    (case a5 => k_is)
    (case l5 => k_is)
    (case c5 => k_is)
    (case k5 => k_is)
    (case a6 => k_is)
    (case l6 => k_is)
    (case c6 => k_is)
    (case k6 => k_is)
    (case a7 => k_is)
    (case l7 => k_is)
    (case c7 => k_is)
    (case k7 => k_is)
    (case a8 => k_is)
    (case l8 => k_is)
    (case c8 => k_is)
    (case k8 => k_is)
    (case a9 => k_is)
    (case l9 => k_is)
    (case c9 => k_is)
    (case k9 => k_is)
    (case a10 => k_is)
    (case l10 => k_is)
    (case c10 => k_is)
    (case k10 => k_is)
    (case a11 => k_is)
    (case l11 => k_is)
    (case c11 => k_is)
    (case k11 => k_is)
    (case a12 => k_is)
    (case l12 => k_is)
    (case c12 => k_is)
    (case k12 => k_is)
    (case a13 => k_is)
    (case l13 => k_is)
    (case c13 => k_is)
    (case k13 => k_is)
    (case a14 => k_is)
    (case l14 => k_is)
    (case c14 => k_is)
    (case k14 => k_is)
    (case a15 => k_is)
    (case l15 => k_is)
    (case c15 => k_is)
    (case k15 => k_is)
    (case a16 => k_is)
    (case l16 => k_is)
    (case c16 => k_is)
    (case k16 => k_is)
    (case v1 => k_is)
    (case v2 => k_is)
    (case z1 => k_is)
    (case z2 => k_is)
    (case z3 => k_is)
    (case z4 => k_is)
    (case z5 => k_is)
    (case z6 => k_is)
    (case z7 => k_is)
    (case z8 => k_is)
    (case z9 => k_is)
    (case z10 => k_is)
