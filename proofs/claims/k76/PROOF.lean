import PyProof.Rows.All
import Wide.All
import OpenK.AllK
import Wide.FinOn
import KE.KDictKeyed
import KE.KDictWalk
import KE.KDictCopyH
import KE.KDictDisplayH
import PyProof.SumWalkG
import HandS.ForMost
import HandS.Walk
import HandS.TupSets
import HandS.SetFor
import HandS.Strs
import HandS.Codes
import HandS.DictComp
import HandS.Zip
import KE.KDictZip
import KE.GoesEnum
import KE.GoesZip
import HandS.TupMul
import HandS.TupAny
import PyProof.ListStr
import PySem.Challenge.RW_keylanes_k76_whole_houses
import HandS.Exc
import HandS.IsInst
import HandS.More
import HandS.Words
import PyProof.NeKinds
import PyProof.EqKinds
import HandS.HeadEnd
/-! k76, the mathematics: lanes, spans, steps, layers of states; the greedy end is the only end. -/
namespace K76
abbrev Span := Nat × Nat
structure Lane where
  b : Nat
  th : List (List Nat)
def Lane.left (l : Lane) : Nat := l.b
def Lane.right (l : Lane) : Nat := l.th.length / 2 - l.b
def Lane.at (l : Lane) (i : Nat) : List Nat := l.th.getD i []
/-- a set of kinds: letters a to l, ascending -/
def SetOk (t : List Nat) : Prop := t.Pairwise (· < ·) ∧ ∀ c ∈ t, 97 ≤ c ∧ c ≤ 108
structure LaneOk (l : Lane) : Prop where
  odd : l.th.length % 2 = 1
  few : l.th.length ≤ 7
  beg : l.b ≤ l.th.length / 2
  sets : ∀ t ∈ l.th, SetOk t
def hasB (l : Lane) (s : Span) (c : Nat) : Bool := (List.range (s.1 + s.2 + 1)).any fun k => (l.at (2 * (l.b - s.1 + k))).contains c
def had (hs : List Lane) (ss : List Span) (c : Nat) : Bool := (hs.zip ss).any fun p => hasB p.1 p.2 c
def openD (hs : List Lane) (ss : List Span) (door : List Nat) : Bool := door.all (had hs ss)
def canL (hs : List Lane) (ss : List Span) (l : Lane) (s : Span) : Bool := decide (s.1 < l.left) && openD hs ss (l.at (2 * (l.b - s.1) - 1))
def canR (hs : List Lane) (ss : List Span) (l : Lane) (s : Span) : Bool := decide (s.2 < l.right) && openD hs ss (l.at (2 * (l.b + s.2) + 1))
def stepsAt (hs : List Lane) (ss : List Span) (i : Nat) : List (List Span) :=
  match hs[i]?, ss[i]? with
  | some l, some s => (if canL hs ss l s = true then [ss.set i (s.1 + 1, s.2)] else []) ++ (if canR hs ss l s = true then [ss.set i (s.1, s.2 + 1)] else [])
  | _, _ => []
def steps (hs : List Lane) (ss : List Span) : List (List Span) := (List.range hs.length).flatMap (stepsAt hs ss)
structure HouseOk (hs : List Lane) : Prop where
  one : 1 ≤ hs.length
  few : hs.length ≤ 4
  ok : ∀ l ∈ hs, LaneOk l
structure VS (hs : List Lane) (ss : List Span) : Prop where
  len : ss.length = hs.length
  bnd : ∀ (i : Nat) l s, hs[i]? = some l → ss[i]? = some s → s.1 ≤ l.left ∧ s.2 ≤ l.right
def zeros (n : Nat) : List Span := List.replicate n (0, 0)
def total (ss : List Span) : Nat := (ss.map fun s => s.1 + s.2).sum

theorem mem_steps {hs : List Lane} {ss t : List Span} : t ∈ steps hs ss ↔ ∃ (i : Nat) (l : Lane) (s : Span), hs[i]? = some l ∧ ss[i]? = some s ∧
    ((canL hs ss l s = true ∧ t = ss.set i (s.1 + 1, s.2)) ∨ (canR hs ss l s = true ∧ t = ss.set i (s.1, s.2 + 1))) := by
  unfold steps
  rw [List.mem_flatMap]
  constructor
  · rintro ⟨i, hi, ht⟩
    unfold stepsAt at ht
    cases hl : hs[i]? with
    | none => rw [hl] at ht; simp at ht
    | some l =>
      cases hS : ss[i]? with
      | none => rw [hl, hS] at ht; simp at ht
      | some s =>
        rw [hl, hS] at ht
        refine ⟨i, l, s, hl, hS, ?_⟩
        rcases List.mem_append.mp ht with h | h
        · by_cases c : canL hs ss l s = true
          · rw [if_pos c] at h; exact .inl ⟨c, by simpa using h⟩
          · rw [if_neg c] at h; simp at h
        · by_cases c : canR hs ss l s = true
          · rw [if_pos c] at h; exact .inr ⟨c, by simpa using h⟩
          · rw [if_neg c] at h; simp at h
  · rintro ⟨i, l, s, hl, hS, h⟩
    have hi : i < hs.length := by
      rcases Nat.lt_or_ge i hs.length with h | h
      · exact h
      · rw [List.getElem?_eq_none h] at hl; cases hl
    refine ⟨i, List.mem_range.mpr hi, ?_⟩
    unfold stepsAt
    rw [hl, hS]
    refine List.mem_append.mpr ?_
    rcases h with ⟨c, e⟩ | ⟨c, e⟩
    · exact .inl (by rw [if_pos c, e]; simp)
    · exact .inr (by rw [if_pos c, e]; simp)

theorem set_get {α : Type} {xs : List α} {i j : Nat} {x y : α} (hi : xs[i]? = some x) : (xs.set i y)[j]? = if j = i then some y else xs[j]? := by
  have hl : i < xs.length := by
    rcases Nat.lt_or_ge i xs.length with h | h
    · exact h
    · rw [List.getElem?_eq_none h] at hi; cases hi
  by_cases h : j = i
  · rw [if_pos h, h, List.getElem?_set_self hl]
  · rw [if_neg h, List.getElem?_set_ne (Ne.symm h)]

theorem step_valid {hs : List Lane} {ss t : List Span} (v : VS hs ss) (h : t ∈ steps hs ss) : VS hs t := by
  obtain ⟨i, l, s, hl, hS, h⟩ := mem_steps.mp h
  have b := v.bnd i l s hl hS
  rcases h with ⟨c, rfl⟩ | ⟨c, rfl⟩
  · refine ⟨by rw [List.length_set]; exact v.len, fun j l' s' e1 e2 => ?_⟩
    rw [set_get hS] at e2
    by_cases hj : j = i
    · rw [if_pos hj] at e2; cases e2
      rw [hj, hl] at e1; cases e1
      unfold canL at c
      rw [Bool.and_eq_true, decide_eq_true_eq] at c
      exact ⟨c.1, b.2⟩
    · rw [if_neg hj] at e2; exact v.bnd j l' s' e1 e2
  · refine ⟨by rw [List.length_set]; exact v.len, fun j l' s' e1 e2 => ?_⟩
    rw [set_get hS] at e2
    by_cases hj : j = i
    · rw [if_pos hj] at e2; cases e2
      rw [hj, hl] at e1; cases e1
      unfold canR at c
      rw [Bool.and_eq_true, decide_eq_true_eq] at c
      exact ⟨b.1, c.1⟩
    · rw [if_neg hj] at e2; exact v.bnd j l' s' e1 e2

theorem total_set : ∀ {ss : List Span} {i : Nat} {s u : Span}, ss[i]? = some s → u.1 + u.2 = s.1 + s.2 + 1 → total (ss.set i u) = total ss + 1
  | [], i, s, u, h, _ => by simp at h
  | x :: r, 0, s, u, h, e => by
    simp at h; subst h
    show (u.1 + u.2) + (r.map fun s => s.1 + s.2).sum = (x.1 + x.2) + (r.map fun s => s.1 + s.2).sum + 1
    omega
  | x :: r, i + 1, s, u, h, e => by
    have ih := total_set (ss := r) (i := i) (s := s) (u := u) (by simpa using h) e
    unfold total at ih ⊢
    show (x.1 + x.2) + ((r.set i u).map fun s => s.1 + s.2).sum = (x.1 + x.2) + (r.map fun s => s.1 + s.2).sum + 1
    omega
theorem step_total {hs : List Lane} {ss t : List Span} (h : t ∈ steps hs ss) : total t = total ss + 1 := by
  obtain ⟨i, l, s, hl, hS, h⟩ := mem_steps.mp h
  rcases h with ⟨c, rfl⟩ | ⟨c, rfl⟩
  · exact total_set hS (by show s.1 + 1 + s.2 = s.1 + s.2 + 1; omega)
  · exact total_set hS (by show s.1 + (s.2 + 1) = s.1 + s.2 + 1; omega)

structure Le (ss tt : List Span) : Prop where
  len : ss.length = tt.length
  le : ∀ (i : Nat) s t, ss[i]? = some s → tt[i]? = some t → s.1 ≤ t.1 ∧ s.2 ≤ t.2

theorem hasB_mono {l : Lane} {s t : Span} {c : Nat} (h1 : s.1 ≤ t.1) (h2 : s.2 ≤ t.2) (hb : t.1 ≤ l.b) (h : hasB l s c = true) : hasB l t c = true := by
  unfold hasB at h ⊢
  rw [List.any_eq_true] at h ⊢
  obtain ⟨k, hk, e⟩ := h
  rw [List.mem_range] at hk
  refine ⟨t.1 - s.1 + k, List.mem_range.mpr (by omega), ?_⟩
  have q : l.b - t.1 + (t.1 - s.1 + k) = l.b - s.1 + k := by omega
  rw [q]; exact e
theorem had_iff {hs : List Lane} {ss : List Span} {c : Nat} : had hs ss c = true ↔ ∃ (i : Nat) (l : Lane) (s : Span), hs[i]? = some l ∧ ss[i]? = some s ∧ hasB l s c = true := by
  unfold had
  rw [List.any_eq_true]
  constructor
  · rintro ⟨p, hp, e⟩
    obtain ⟨i, hi⟩ := List.getElem?_of_mem hp
    rw [List.getElem?_zip_eq_some] at hi
    exact ⟨i, p.1, p.2, hi.1, hi.2, e⟩
  · rintro ⟨i, l, s, h1, h2, e⟩
    exact ⟨(l, s), List.mem_of_getElem? (i := i) (List.getElem?_zip_eq_some.mpr ⟨h1, h2⟩), e⟩
theorem had_mono {hs : List Lane} {ss tt : List Span} (v : VS hs tt) (le : Le ss tt) {c : Nat} (h : had hs ss c = true) : had hs tt c = true := by
  obtain ⟨i, l, s, h1, h2, e⟩ := had_iff.mp h
  have hi : i < tt.length := by
    rw [← le.len]
    rcases Nat.lt_or_ge i ss.length with h | h
    · exact h
    · rw [List.getElem?_eq_none h] at h2; cases h2
  have ht : tt[i]? = some tt[i] := List.getElem?_eq_getElem hi
  have q := le.le i s _ h2 ht
  exact had_iff.mpr ⟨i, l, _, h1, ht, hasB_mono q.1 q.2 (v.bnd i l _ h1 ht).1 e⟩
theorem open_mono {hs : List Lane} {ss tt : List Span} (v : VS hs tt) (le : Le ss tt) {d : List Nat} (h : openD hs ss d = true) : openD hs tt d = true := by
  unfold openD at h ⊢
  rw [List.all_eq_true] at h ⊢
  exact fun c hc => had_mono v le (h c hc)

inductive Reach (hs : List Lane) : List Span → Prop
  | zero : Reach hs (zeros hs.length)
  | step {ss t : List Span} : Reach hs ss → t ∈ steps hs ss → Reach hs t
theorem zeros_get {n i : Nat} {s : Span} (h : (zeros n)[i]? = some s) : s = (0, 0) := by
  unfold zeros at h
  rw [List.getElem?_replicate] at h
  split at h
  · exact (Option.some.inj h).symm
  · cases h
theorem zero_valid {hs : List Lane} : VS hs (zeros hs.length) :=
  ⟨by unfold zeros; rw [List.length_replicate], fun i l s _ e => by rw [zeros_get e]; exact ⟨Nat.zero_le _, Nat.zero_le _⟩⟩
theorem Reach.valid {hs : List Lane} {ss : List Span} (r : Reach hs ss) : VS hs ss := by
  induction r with
  | zero => exact zero_valid
  | step _ h ih => exact step_valid ih h
theorem zero_le {n : Nat} {ss : List Span} (h : ss.length = n) : Le (zeros n) ss :=
  ⟨by unfold zeros; rw [List.length_replicate, h], fun i s t e _ => by rw [zeros_get e]; exact ⟨Nat.zero_le _, Nat.zero_le _⟩⟩
/-- one step behind a state below another one: it stays below, or the other one has a step -/
theorem step_le {hs : List Lane} {ss t G : List Span} (vG : VS hs G) (le : Le ss G) (h : t ∈ steps hs ss) : Le t G ∨ steps hs G ≠ [] := by
  obtain ⟨i, l, s, hl, hS, h⟩ := mem_steps.mp h
  have hi : i < G.length := by
    rw [← le.len]
    rcases Nat.lt_or_ge i ss.length with h | h
    · exact h
    · rw [List.getElem?_eq_none h] at hS; cases hS
  have hG : G[i]? = some G[i] := List.getElem?_eq_getElem hi
  generalize G[i] = g at hG
  have q := le.le i s g hS hG
  have nonempty : ∀ {u : List Span}, u ∈ steps hs G → steps hs G ≠ [] := fun m e => by rw [e] at m; cases m
  rcases h with ⟨c, rfl⟩ | ⟨c, rfl⟩
  · unfold canL at c
    rw [Bool.and_eq_true, decide_eq_true_eq] at c
    by_cases hlt : s.1 + 1 ≤ g.1
    · refine .inl ⟨by rw [List.length_set]; exact le.len, fun j a b e1 e2 => ?_⟩
      rw [set_get hS] at e1
      by_cases hj : j = i
      · rw [if_pos hj] at e1; cases e1
        rw [hj, hG] at e2; cases e2
        exact ⟨hlt, q.2⟩
      · rw [if_neg hj] at e1; exact le.le j a b e1 e2
    · refine .inr (nonempty (mem_steps.mpr ⟨i, l, g, hl, hG, .inl ⟨?_, rfl⟩⟩))
      have e : g.1 = s.1 := by omega
      unfold canL
      rw [Bool.and_eq_true, decide_eq_true_eq, e]
      exact ⟨c.1, open_mono vG le c.2⟩
  · unfold canR at c
    rw [Bool.and_eq_true, decide_eq_true_eq] at c
    by_cases hlt : s.2 + 1 ≤ g.2
    · refine .inl ⟨by rw [List.length_set]; exact le.len, fun j a b e1 e2 => ?_⟩
      rw [set_get hS] at e1
      by_cases hj : j = i
      · rw [if_pos hj] at e1; cases e1
        rw [hj, hG] at e2; cases e2
        exact ⟨q.1, hlt⟩
      · rw [if_neg hj] at e1; exact le.le j a b e1 e2
    · refine .inr (nonempty (mem_steps.mpr ⟨i, l, g, hl, hG, .inr ⟨?_, rfl⟩⟩))
      have e : g.2 = s.2 := by omega
      unfold canR
      rw [Bool.and_eq_true, decide_eq_true_eq, e]
      exact ⟨c.1, open_mono vG le c.2⟩
theorem reach_le {hs : List Lane} {ss G : List Span} (r : Reach hs ss) (vG : VS hs G) : Le ss G ∨ steps hs G ≠ [] := by
  induction r with
  | zero => exact .inl (zero_le vG.len)
  | step _ h ih =>
    rcases ih with le | e
    · exact step_le vG le h
    · exact .inr e
theorem Le.antisymm {ss tt : List Span} (a : Le ss tt) (b : Le tt ss) : ss = tt := by
  refine List.ext_getElem? fun i => ?_
  rcases Nat.lt_or_ge i ss.length with h | h
  · have e1 : ss[i]? = some ss[i] := List.getElem?_eq_getElem h
    have e2 : tt[i]? = some (tt[i]'(by rw [← a.len]; exact h)) := List.getElem?_eq_getElem _
    have p := a.le i _ _ e1 e2
    have q := b.le i _ _ e2 e1
    rw [e1, e2]
    exact congrArg some (Prod.ext (by omega) (by omega))
  · rw [List.getElem?_eq_none h, List.getElem?_eq_none (by rw [← a.len]; exact h)]
/-- two reachable states that have no step are one -/
theorem reach_end {hs : List Lane} {ss G : List Span} (r : Reach hs ss) (rG : Reach hs G) (eG : steps hs G = []) : steps hs ss = [] → ss = G := fun e => by
  rcases reach_le r rG.valid with a | a
  · rcases reach_le rG r.valid with b | b
    · exact a.antisymm b
    · exact absurd e b
  · exact absurd eG a

/-! ### tables of states -/
section
variable {κ : Type} [DecidableEq κ]
def put (d : List (κ × Int)) (k : κ) (v : Int) : List (κ × Int) := if (d.any fun p => decide (p.1 = k)) = true then d.map (fun p => if p.1 = k then (p.1, v) else p) else d ++ [(k, v)]
def get (d : List (κ × Int)) (k : κ) : Option Int := (d.find? fun p => decide (p.1 = k)).map (·.2)
theorem keys_map (d : List (κ × Int)) (k : κ) (v : Int) : (d.map (fun p => if p.1 = k then (p.1, v) else p)).map (·.1) = d.map (·.1) := by
  rw [List.map_map]
  refine List.map_congr_left fun p _ => ?_
  show (if p.1 = k then (p.1, v) else p).1 = p.1
  split <;> rfl
theorem any_key {d : List (κ × Int)} {k : κ} : (d.any fun p => decide (p.1 = k)) = true ↔ k ∈ d.map (·.1) := by
  rw [List.any_eq_true, List.mem_map]
  exact ⟨fun ⟨p, h, e⟩ => ⟨p, h, of_decide_eq_true e⟩, fun ⟨p, h, e⟩ => ⟨p, h, decide_eq_true e⟩⟩
theorem mem_put {d : List (κ × Int)} {k j : κ} {v : Int} : j ∈ (put d k v).map (·.1) ↔ j ∈ d.map (·.1) ∨ j = k := by
  unfold put
  by_cases h : (d.any fun p => decide (p.1 = k)) = true
  · rw [if_pos h, keys_map]
    exact ⟨.inl, fun e => e.elim id fun e => e ▸ any_key.mp h⟩
  · rw [if_neg h, List.map_append, List.mem_append]
    simp
theorem nodup_put {d : List (κ × Int)} {k : κ} {v : Int} (n : (d.map (·.1)).Nodup) : ((put d k v).map (·.1)).Nodup := by
  unfold put
  by_cases h : (d.any fun p => decide (p.1 = k)) = true
  · rw [if_pos h, keys_map]; exact n
  · rw [if_neg h, List.map_append]
    refine List.nodup_append.mpr ⟨n, by simp, fun a ha b hb e => ?_⟩
    have hb : b = k := by simpa using hb
    rw [e, hb] at ha
    exact h (any_key.mpr ha)
theorem get_mem {d : List (κ × Int)} (n : (d.map (·.1)).Nodup) {p : κ × Int} (h : p ∈ d) : get d p.1 = some p.2 := by
  induction d with
  | nil => cases h
  | cons q r ih =>
    rw [List.map_cons, List.nodup_cons] at n
    unfold get
    rw [List.find?_cons]
    rcases List.mem_cons.mp h with e | h
    · subst e
      rw [decide_eq_true rfl]; rfl
    · have hne : ¬ q.1 = p.1 := fun e => n.1 (e ▸ List.mem_map.mpr ⟨p, h, rfl⟩)
      rw [decide_eq_false hne]
      exact ih n.2 h
theorem length_put (d : List (κ × Int)) (k : κ) (v : Int) : (put d k v).length ≤ d.length + 1 := by
  unfold put
  split
  · rw [List.length_map]; omega
  · rw [List.length_append]; simp
end
abbrev Tab := List (List Span × Int)
def addTo (m : Int) (acc : Tab) (t : List Span) : Tab := put acc t ((get acc t).getD 0 + m)
def spread (hs : List Lane) (acc : Tab) (p : List Span × Int) : Tab := (steps hs p.1).foldl (addTo p.2) acc
def layer (hs : List Lane) (now : Tab) : Tab := now.foldl (spread hs) []
theorem addAll {m : Int} : ∀ (ts : List (List Span)) (acc : Tab), (acc.map (·.1)).Nodup →
    ((ts.foldl (addTo m) acc).map (·.1)).Nodup ∧ ∀ j, j ∈ (ts.foldl (addTo m) acc).map (·.1) ↔ j ∈ acc.map (·.1) ∨ j ∈ ts
  | [], acc, n => ⟨n, fun j => by simp⟩
  | t :: r, acc, n => by
    obtain ⟨h1, h2⟩ := addAll (m := m) r (addTo m acc t) (nodup_put n)
    refine ⟨h1, fun j => ?_⟩
    show j ∈ (r.foldl (addTo m) (addTo m acc t)).map (·.1) ↔ _
    rw [h2 j]
    unfold addTo
    rw [mem_put, List.mem_cons, or_assoc]
theorem spreadAll {hs : List Lane} : ∀ (now acc : Tab), (acc.map (·.1)).Nodup →
    ((now.foldl (spread hs) acc).map (·.1)).Nodup ∧ ∀ j, j ∈ (now.foldl (spread hs) acc).map (·.1) ↔ j ∈ acc.map (·.1) ∨ ∃ s ∈ now.map (·.1), j ∈ steps hs s
  | [], acc, n => ⟨n, fun j => by simp⟩
  | p :: r, acc, n => by
    obtain ⟨g1, g2⟩ := addAll (m := p.2) (steps hs p.1) acc n
    obtain ⟨h1, h2⟩ := spreadAll (hs := hs) r (spread hs acc p) g1
    refine ⟨h1, fun j => ?_⟩
    show j ∈ (r.foldl (spread hs) (spread hs acc p)).map (·.1) ↔ _
    rw [h2 j]
    unfold spread
    rw [g2 j, or_assoc]
    refine or_congr Iff.rfl ⟨?_, ?_⟩
    · rintro (h | ⟨s, hs', h⟩)
      · exact ⟨p.1, List.mem_map.mpr ⟨p, List.mem_cons_self, rfl⟩, h⟩
      · exact ⟨s, by rw [List.map_cons]; exact List.mem_cons_of_mem _ hs', h⟩
    · rintro ⟨s, hs', h⟩
      rw [List.map_cons] at hs'
      rcases List.mem_cons.mp hs' with e | hs'
      · exact .inl (e ▸ h)
      · exact .inr ⟨s, hs', h⟩
theorem mem_layer {hs : List Lane} {now : Tab} {j : List Span} : j ∈ (layer hs now).map (·.1) ↔ ∃ s ∈ now.map (·.1), j ∈ steps hs s := by
  have h := (spreadAll (hs := hs) now [] (by simp)).2 j
  unfold layer
  rw [h]
  simp
theorem nodup_layer {hs : List Lane} {now : Tab} : ((layer hs now).map (·.1)).Nodup := (spreadAll (hs := hs) now [] (by simp)).1
def lay (hs : List Lane) : Nat → Tab
  | 0 => [(zeros hs.length, 1)]
  | k + 1 => layer hs (lay hs k)
theorem lay_ok {hs : List Lane} : ∀ k, ((lay hs k).map (·.1)).Nodup ∧ ∀ s ∈ (lay hs k).map (·.1), Reach hs s ∧ total s = k
  | 0 => by
    refine ⟨by simp [lay], fun s h => ?_⟩
    have e : s = zeros hs.length := by simpa [lay] using h
    rw [e]
    refine ⟨.zero, ?_⟩
    unfold total zeros
    rw [List.map_replicate]
    simp
  | k + 1 => by
    obtain ⟨_, h⟩ := lay_ok (hs := hs) k
    refine ⟨nodup_layer, fun s hm => ?_⟩
    obtain ⟨u, hu, hstep⟩ := mem_layer.mp hm
    obtain ⟨r, t⟩ := h u hu
    exact ⟨.step r hstep, by rw [step_total hstep, t]⟩
theorem total_le {ss tt : List Span} (le : Le ss tt) : total ss ≤ total tt := by
  have : ∀ (ss tt : List Span), Le ss tt → total ss ≤ total tt := by
    intro ss
    induction ss with
    | nil => intro tt _; exact Nat.zero_le _
    | cons s r ih =>
      intro tt le
      cases tt with
      | nil => have := le.len; simp at this
      | cons t q =>
        have h0 := le.le 0 s t rfl rfl
        have h1 := ih q ⟨by simpa using le.len, fun i a b e1 e2 => le.le (i + 1) a b (by simpa using e1) (by simpa using e2)⟩
        unfold total at h1 ⊢
        show (s.1 + s.2) + (r.map fun s => s.1 + s.2).sum ≤ (t.1 + t.2) + (q.map fun s => s.1 + s.2).sum
        omega
  exact this ss tt le
theorem total_eq : ∀ {ss tt : List Span}, Le ss tt → total tt ≤ total ss → ss = tt
  | [], tt, le, _ => by
    cases tt with
    | nil => rfl
    | cons t q => have := le.len; simp at this
  | s :: r, [], le, _ => by have := le.len; simp at this
  | s :: r, t :: q, le, h => by
    have h0 := le.le 0 s t rfl rfl
    have lr : Le r q := ⟨by simpa using le.len, fun i a b e1 e2 => le.le (i + 1) a b (by simpa using e1) (by simpa using e2)⟩
    have h1 := total_le lr
    have h2 : (s.1 + s.2) + total r = total (s :: r) := by unfold total; simp
    have h3 : (t.1 + t.2) + total q = total (t :: q) := by unfold total; simp
    have e := total_eq lr (by omega)
    rw [e]
    exact congrArg (· :: q) (Prod.ext (by omega) (by omega))
/-- below the greatest state's layer every layer has states, and each has a step -/
theorem lay_more {hs : List Lane} {G : List Span} (rG : Reach hs G) (eG : steps hs G = []) : ∀ k, k ≤ total G → lay hs k ≠ []
  | 0, _ => by simp [lay]
  | k + 1, h => by
    have ih := lay_more rG eG k (by omega)
    cases e : lay hs k with
    | nil => exact absurd e ih
    | cons p r =>
      have hp : p.1 ∈ (lay hs k).map (·.1) := by rw [e]; simp
      obtain ⟨rp, tp⟩ := (lay_ok (hs := hs) k).2 _ hp
      have ne : steps hs p.1 ≠ [] := fun z => by
        have q := reach_end rp rG eG z
        rw [q] at tp; omega
      cases es : steps hs p.1 with
      | nil => exact absurd es ne
      | cons t q =>
        have : t ∈ (lay hs (k + 1)).map (·.1) := mem_layer.mpr ⟨p.1, hp, by rw [es]; simp⟩
        intro z
        rw [z] at this
        cases this
theorem lay_last {hs : List Lane} {G : List Span} (rG : Reach hs G) (eG : steps hs G = []) : (lay hs (total G)).map (·.1) = [G] ∧ lay hs (total G + 1) = [] := by
  have all : ∀ s ∈ (lay hs (total G)).map (·.1), s = G := fun s hs' => by
    obtain ⟨r, t⟩ := (lay_ok (hs := hs) _).2 s hs'
    rcases reach_le r rG.valid with le | e
    · exact total_eq le (by omega)
    · exact absurd eG e
  have nd := (lay_ok (hs := hs) (total G)).1
  have ne := lay_more rG eG (total G) (Nat.le_refl _)
  constructor
  · cases e : (lay hs (total G)).map (·.1) with
    | nil => exact absurd (List.map_eq_nil_iff.mp e) ne
    | cons a r =>
      rw [e] at all nd
      have ha := all a List.mem_cons_self
      cases r with
      | nil => rw [ha]
      | cons b q =>
        have hb := all b (List.mem_cons_of_mem _ List.mem_cons_self)
        rw [List.nodup_cons] at nd
        exact absurd (by rw [ha, hb]; exact List.mem_cons_self) nd.1
  · cases e : lay hs (total G + 1) with
    | nil => rfl
    | cons p r =>
      have hp : p.1 ∈ (lay hs (total G + 1)).map (·.1) := by rw [e]; simp
      obtain ⟨s, hs', hst⟩ := mem_layer.mp hp
      rw [all s hs', eG] at hst
      cases hst

/-! ### how many states -/
def pairs10 : List Span := [(0, 0), (0, 1), (0, 2), (0, 3), (1, 0), (1, 1), (1, 2), (2, 0), (2, 1), (3, 0)]
theorem mem_pairs10 {s : Span} (h : s.1 + s.2 ≤ 3) : s ∈ pairs10 := by
  obtain ⟨x, y⟩ := s
  have h : x + y ≤ 3 := h
  have hx : x = 0 ∨ x = 1 ∨ x = 2 ∨ x = 3 := by omega
  have hy : y = 0 ∨ y = 1 ∨ y = 2 ∨ y = 3 := by omega
  rcases hx with rfl | rfl | rfl | rfl <;> rcases hy with rfl | rfl | rfl | rfl <;> first | (exfalso; omega) | decide
def cands : Nat → List (List Span)
  | 0 => [[]]
  | n + 1 => pairs10.flatMap fun s => (cands n).map (s :: ·)
theorem len_cands : ∀ n, (cands n).length = 10 ^ n
  | 0 => rfl
  | n + 1 => by
    unfold cands
    simp only [pairs10, List.flatMap_cons, List.flatMap_nil, List.length_append, List.length_map, List.length_nil, len_cands n, Nat.pow_succ]
    omega
theorem mem_cands : ∀ (ss : List Span), (∀ s ∈ ss, s.1 + s.2 ≤ 3) → ss ∈ cands ss.length
  | [], _ => by simp [cands]
  | s :: r, h => by
    have ih := mem_cands r fun u hu => h u (List.mem_cons_of_mem _ hu)
    show s :: r ∈ pairs10.flatMap fun s => (cands r.length).map (s :: ·)
    exact List.mem_flatMap.mpr ⟨s, mem_pairs10 (h s List.mem_cons_self), List.mem_map.mpr ⟨r, ih, rfl⟩⟩
theorem nodup_le {α : Type} [DecidableEq α] : ∀ (l m : List α), l.Nodup → (∀ x ∈ l, x ∈ m) → l.length ≤ m.length
  | [], _, _, _ => Nat.zero_le _
  | a :: r, m, n, h => by
    rw [List.nodup_cons] at n
    have ha := h a List.mem_cons_self
    have ih := nodup_le r (m.erase a) n.2 fun x hx => by
      have hne : x ≠ a := fun e => n.1 (by rw [← e]; exact hx)
      exact (List.mem_erase_of_ne hne).mpr (h x (List.mem_cons_of_mem _ hx))
    rw [List.length_erase_of_mem ha] at ih
    have := List.length_pos_of_mem ha
    rw [List.length_cons]
    omega
theorem span_small {hs : List Lane} (ok : HouseOk hs) {ss : List Span} (v : VS hs ss) : ∀ s ∈ ss, s.1 + s.2 ≤ 3 := fun s h => by
  obtain ⟨i, hi⟩ := List.getElem?_of_mem h
  have hl : i < hs.length := by
    rw [← v.len]
    rcases Nat.lt_or_ge i ss.length with h | h
    · exact h
    · rw [List.getElem?_eq_none h] at hi; cases hi
  have e : hs[i]? = some hs[i] := List.getElem?_eq_getElem hl
  have b := v.bnd i _ s e hi
  have o := ok.ok _ (List.mem_of_getElem? e)
  have o1 := o.few
  have o2 := o.beg
  unfold Lane.left Lane.right at b
  omega
theorem lay_few {hs : List Lane} (ok : HouseOk hs) (k : Nat) : (lay hs k).length ≤ 10000 := by
  obtain ⟨nd, h⟩ := lay_ok (hs := hs) k
  have q := nodup_le ((lay hs k).map (·.1)) (cands hs.length) nd fun s hs' => by
    have v := (h s hs').1.valid
    have m := mem_cands s (span_small ok v)
    rw [v.len] at m
    exact m
  rw [List.length_map, len_cands] at q
  have : 10 ^ hs.length ≤ 10 ^ 4 := Nat.pow_le_pow_right (by decide) ok.few
  omega
theorem total_few {hs : List Lane} (ok : HouseOk hs) {ss : List Span} (v : VS hs ss) : total ss ≤ 12 := by
  have h := span_small ok v
  have : ∀ ss : List Span, (∀ s ∈ ss, s.1 + s.2 ≤ 3) → total ss ≤ 3 * ss.length := by
    intro ss
    induction ss with
    | nil => intro _; exact Nat.le_refl _
    | cons s r ih =>
      intro h
      have h1 := ih fun u hu => h u (List.mem_cons_of_mem _ hu)
      have h2 := h s List.mem_cons_self
      unfold total at h1 ⊢
      show (s.1 + s.2) + (r.map fun s => s.1 + s.2).sum ≤ 3 * (r.length + 1)
      omega
  have q := this ss h
  have := ok.few
  rw [v.len] at q
  omega
end K76

set_option Elab.async false
set_option linter.all false
set_option maxRecDepth 100000
/-! k76: dicts whose keys are tuples of pairs of numbers, over the layer's heap. -/
namespace K76
open PySem PySem.Spec PyProof.Rows L2
abbrev NT := List (List Span × Addr × Int)
def nkP (s : Span) : NestedKey := .tup [.num (s.1 : Nat), .num (s.2 : Nat)]
def nk (ss : List Span) : NestedKey := .tup (ss.map nkP)
theorem nkP_inj {s t : Span} (e : nkP s = nkP t) : s = t := by
  unfold nkP at e
  simp only [NestedKey.tup.injEq, List.cons.injEq, NestedKey.num.injEq, and_true] at e
  exact Prod.ext (by omega) (by omega)
theorem nkPs_inj : ∀ {a b : List Span}, a.map nkP = b.map nkP → a = b
  | [], [], _ => rfl
  | [], _ :: _, e => by simp at e
  | _ :: _, [], e => by simp at e
  | x :: xs, y :: ys, e => by
    rw [List.map_cons, List.map_cons] at e
    injection e with e1 e2
    rw [nkP_inj e1, nkPs_inj e2]
theorem nk_inj {a b : List Span} (e : nk a = nk b) : a = b := by
  unfold nk at e
  injection e with e
  exact nkPs_inj e
theorem nk_iff {a b : List Span} : nk a = nk b ↔ a = b := ⟨nk_inj, fun e => by rw [e]⟩
theorem nkPs_depth : ∀ ss : List Span, NestedKey.depthAll (ss.map nkP) ≤ 1
  | [] => by simp [NestedKey.depthAll]
  | s :: r => by
    have ih := nkPs_depth r
    rw [List.map_cons]
    simp only [NestedKey.depthAll, nkP, NestedKey.depth]
    omega
/-- at p the pair s stands -/
def PairAt (H : Hp) (p : Addr) (s : Span) : Prop := H p = some (.tup [.int (s.1 : Nat), .int (s.2 : Nat)])
/-- at b a tuple of the pairs ss -/
def SpT (H : Hp) (b : Addr) (ss : List Span) : Prop := ∃ ps : List Addr, H b = some (.tup (ps.map V.ref)) ∧ Paired (PairAt H) ps ss
/-- tuples that stood stand -/
def KeepT (H H' : Hp) : Prop := ∀ b xs, H b = some (.tup xs) → H' b = some (.tup xs)
theorem KeepT.refl (H : Hp) : KeepT H H := fun _ _ e => e
theorem KeepT.trans {H H1 H2 : Hp} (a : KeepT H H1) (b : KeepT H1 H2) : KeepT H H2 := fun c xs e => b c xs (a c xs e)
theorem KeepT.pair {H H' : Hp} (k : KeepT H H') {p : Addr} {s : Span} (h : PairAt H p s) : PairAt H' p s := k _ _ h
theorem KeepT.spt {H H' : Hp} (k : KeepT H H') {b : Addr} {ss : List Span} (h : SpT H b ss) : SpT H' b ss := by
  obtain ⟨ps, e, r⟩ := h
  exact ⟨ps, k _ _ e, Paired.mapP r fun _ _ q => k.pair q⟩
/-- all keys stand -/
def KeysAt (H : Hp) (n : NT) : Prop := ∀ p ∈ n, SpT H p.2.1 p.1
theorem KeepT.keys {H H' : Hp} (k : KeepT H H') {n : NT} (h : KeysAt H n) : KeysAt H' n := fun p hp => k.spt (h p hp)
theorem vals_pair {i j : Int} {us : List Value} (r : Vals [.int i, .int j] us) : ∃ t u, us = [.int i t, .int j u] := by
  cases r with
  | cons a r =>
    cases r with
    | cons b r =>
      cases r
      obtain ⟨t, rfl⟩ := a
      obtain ⟨u, rfl⟩ := b
      exact ⟨t, u, rfl⟩
section
variable {P : Program} {w : World} {H : Hp} {h : Heap}
theorem pair_is (ok : HOk P w H h) {p : Addr} {s : Span} (e : PairAt H p s) : NestedIs h (nkP s) (.ref p) := by
  obtain ⟨_, its, r, o, h1, h2, n, h3⟩ := (show ObjOk P w H h p (.tup [.int (s.1 : Nat), .int (s.2 : Nat)]) from ok p _ e)
  obtain ⟨t, u, rfl⟩ := vals_pair r
  exact .tup h1 h2 h3 (.cons (.int _ _) (.cons (.int _ _) .nil))
theorem pairs_are (ok : HOk P w H h) : ∀ {ps : List Addr} {ss : List Span} {us : List Value}, Paired (PairAt H) ps ss → Vals (ps.map V.ref) us → NestedAll h (ss.map nkP) us
  | _, _, _, .nil, r => by cases r; exact .nil
  | _, _, _, .cons a r, q => by
    rw [List.map_cons] at q
    cases q with
    | cons b q =>
      cases b
      exact .cons (pair_is ok a) (pairs_are ok r q)
theorem key_is (ok : HOk P w H h) {b : Addr} {ss : List Span} (e : SpT H b ss) : (nestedKind P w).is h (nk ss) b := by
  obtain ⟨ps, e, r⟩ := e
  obtain ⟨_, its, rv, o, h1, h2, n, h3⟩ := (show ObjOk P w H h b (.tup (ps.map V.ref)) from ok b _ e)
  refine ⟨.tup h1 h2 h3 (by simpa using pairs_are ok r rv), ?_⟩
  have := nkPs_depth ss
  unfold nk
  simp only [NestedKey.depth]
  omega
end
/-- entries and their raw form -/
def NR : NT → List (NestedKey × Addr × Value) → Prop := Paired fun p q => q.1 = nk p.1 ∧ q.2.1 = p.2.1 ∧ ∃ t, q.2.2 = .int p.2.2 t
def getN (n : NT) (k : List Span) : Option Int := (n.find? fun p => decide (p.1 = k)).map (·.2.2)
def putN (n : NT) (k : List Span) (a : Addr) (v : Int) : NT := if (n.any fun p => decide (p.1 = k)) = true then n.map (fun p => if p.1 = k then (p.1, p.2.1, v) else p) else n ++ [(k, a, v)]
def tabOf (n : NT) : Tab := n.map fun p => (p.1, p.2.2)
theorem getN_tab (k : List Span) : ∀ n : NT, getN n k = get (tabOf n) k
  | [] => rfl
  | p :: r => by
    have ih := getN_tab k r
    unfold getN get tabOf at ih ⊢
    rw [List.find?_cons, List.map_cons, List.find?_cons]
    by_cases e : p.1 = k
    · simp only [decide_eq_true e]; rfl
    · simp only [decide_eq_false e]; exact ih
theorem any_tab (k : List Span) : ∀ n : NT, (n.any fun p => decide (p.1 = k)) = (tabOf n).any fun p => decide (p.1 = k)
  | [] => rfl
  | p :: r => by
    have ih := any_tab k r
    unfold tabOf at ih ⊢
    rw [List.any_cons, List.map_cons, List.any_cons, ih]
theorem tab_put (n : NT) (k : List Span) (a : Addr) (v : Int) : tabOf (putN n k a v) = put (tabOf n) k v := by
  unfold putN put
  rw [any_tab]
  by_cases c : ((tabOf n).any fun p => decide (p.1 = k)) = true
  · rw [if_pos c, if_pos c]
    unfold tabOf
    rw [List.map_map, List.map_map]
    refine List.map_congr_left fun p _ => ?_
    show ((if p.1 = k then (p.1, p.2.1, v) else p).1, (if p.1 = k then (p.1, p.2.1, v) else p).2.2) = if p.1 = k then (p.1, v) else (p.1, p.2.2)
    split <;> rfl
  · rw [if_neg c, if_neg c]
    unfold tabOf
    rw [List.map_append]
    rfl
theorem putN_len (n : NT) (k : List Span) (a : Addr) (v : Int) : (putN n k a v).length ≤ n.length + 1 := by
  unfold putN
  split
  · rw [List.length_map]; omega
  · rw [List.length_append]; simp
theorem putN_keys {H : Hp} {n : NT} {k : List Span} {a : Addr} {v : Int} (h : KeysAt H n) (ha : SpT H a k) : KeysAt H (putN n k a v) := by
  unfold putN
  split
  · intro p hp
    obtain ⟨q, hq, e⟩ := List.mem_map.mp hp
    have := h q hq
    by_cases c : q.1 = k
    · rw [if_pos c] at e; rw [← e]; exact this
    · rw [if_neg c] at e; rw [← e]; exact this
  · intro p hp
    rcases List.mem_append.mp hp with hp | hp
    · exact h p hp
    · have e : p = (k, a, v) := by simpa using hp
      rw [e]; exact ha
theorem NR.len {n : NT} {xs} (r : NR n xs) : n.length = xs.length := Paired.length r
theorem NR.at {n : NT} {xs} (r : NR n xs) (k : List Span) : (getN n k = none ∧ atKey xs (nk k) = none) ∨ ∃ v a t, getN n k = some v ∧ atKey xs (nk k) = some (a, .int v t) := by
  unfold NR at r
  induction r with
  | nil => exact .inl ⟨rfl, rfl⟩
  | @cons p q ps qs h t ih =>
    obtain ⟨h1, h2, u, h3⟩ := h
    by_cases e : p.1 = k
    · have e' : q.1 = nk k := by rw [h1, e]
      refine .inr ⟨p.2.2, q.2.1, u, ?_, ?_⟩
      · unfold getN; rw [List.find?_cons]; simp only [decide_eq_true e]; rfl
      · unfold atKey; rw [List.find?_cons]; simp only [decide_eq_true e']; rw [← h3]; rfl
    · have e' : ¬ q.1 = nk k := fun z => e (nk_inj (h1.symm.trans z))
      have a1 : getN (p :: ps) k = getN ps k := by unfold getN; rw [List.find?_cons]; simp only [decide_eq_false e]
      have a2 : atKey (q :: qs) (nk k) = atKey qs (nk k) := by unfold atKey; rw [List.find?_cons]; simp only [decide_eq_false e']
      rw [a1, a2]
      exact ih
theorem getN_any (k : List Span) : ∀ n : NT, (n.any fun p => decide (p.1 = k)) = (getN n k).isSome
  | [] => rfl
  | p :: r => by
    have ih := getN_any k r
    unfold getN at ih ⊢
    rw [List.any_cons, List.find?_cons]
    by_cases e : p.1 = k
    · simp only [decide_eq_true e]; rfl
    · simp only [decide_eq_false e]; rw [Bool.false_or]; exact ih
theorem NR.put {n : NT} {xs} (r : NR n xs) (k : List Span) (a : Addr) (v : Int) (t : Tok) : NR (putN n k a v) (storedH xs (nk k) a (.int v t)) := by
  have e : (n.any fun p => decide (p.1 = k)) = (atKey xs (nk k)).isSome := by
    rw [getN_any]
    rcases r.at k with ⟨h1, h2⟩ | ⟨v', a', t', h1, h2⟩
    · rw [h1, h2]; rfl
    · rw [h1, h2]; rfl
  unfold putN storedH
  rw [e]
  by_cases c : (atKey xs (nk k)).isSome = true
  · rw [if_pos c, if_pos c]
    clear e c
    unfold NR at r ⊢
    induction r with
    | nil => exact .nil
    | @cons p q ps qs h s ih =>
      rw [List.map_cons, List.map_cons]
      refine .cons ?_ ih
      obtain ⟨h1, h2, h3⟩ := h
      unfold putAt
      by_cases c : p.1 = k
      · rw [if_pos c, if_pos (show q.1 = nk k by rw [h1, c])]
        exact ⟨h1, h2, t, rfl⟩
      · rw [if_neg c, if_neg (fun z => c (nk_inj (h1.symm.trans z)))]
        exact ⟨h1, h2, h3⟩
  · rw [if_neg c, if_neg c]
    exact Paired.snoc r ⟨rfl, rfl, t, rfl⟩
/-- what is true of the one object -/
def NDx (P : Program) (w : World) (d : Addr) (n : NT) : Heap → Prop := fun h => n.length ≤ sizeLine ∧ (d == sysModules) = false ∧ ∃ xs, NR n xs ∧
  ∃ o es ep, h.get? d = some o ∧ o.ExactDict ∧ o.data = .dict es ep ∧ es.toList = xs.map (entryOfKey (nestedKind P w)) ∧ (xs.map (·.1)).Nodup
def NDo (P : Program) (w : World) (d : Addr) (n : NT) : HO := .ext (NDx P w d n)
theorem NDx.stay {P : Program} {w : World} {d : Addr} {n : NT} : ∀ h1 h2 : Heap, NDx P w d n h1 → (∀ o, h1.get? d = some o → h2.get? d = some o) → NDx P w d n h2 :=
  fun _ _ ⟨a, b, xs, r, o, es, ep, e, c⟩ k => ⟨a, b, xs, r, o, es, ep, k o e, c⟩
theorem nd_mk {P : Program} {w : World} {H : Hp} {h : Heap} {d : Addr} {n : NT} (q : NDx P w d n h) : ObjOk P w H h d (NDo P w d n) :=
  ⟨q, (by obtain ⟨_, _, _, _, o, _, _, e, _⟩ := q; exact ⟨o, e⟩), NDx.stay⟩
section
variable {P : Program} {w : World} {H : Hp} {h : Heap} {d : Addr} {n : NT}
theorem nd_rd (ok : HOk P w H h) (e : Rd H d (NDo P w d n)) : NDx P w d n h := (show ObjOk P w H h d (NDo P w d n) from e.ok ok).1
theorem nd_dict (ok : HOk P w H h) (e : Rd H d (NDo P w d n)) (ks : KeysAt H n) : n.length ≤ sizeLine ∧ (d == sysModules) = false ∧ ∃ xs, NR n xs ∧ h.DictOfH (nestedKind P w) d xs := by
  obtain ⟨a, b, xs, r, o, es, ep, h1, h2, h3, h4, h5⟩ := nd_rd ok e
  refine ⟨a, b, xs, r, o, es, ep, h1, h2, h3, h4, fun x hx => ?_, h5⟩
  have : ∀ {m : NT} {ys}, NR m ys → KeysAt H m → ∀ x ∈ ys, (nestedKind P w).is h x.1 x.2.1 := by
    intro m ys q
    unfold NR at q
    induction q with
    | nil => intro _ x hx; cases hx
    | @cons p q ps qs hq t ih =>
      intro km x hx
      rcases List.mem_cons.mp hx with e | hx
      · subst e
        obtain ⟨e1, e2, _⟩ := hq
        rw [e1, e2]
        exact key_is ok (km p List.mem_cons_self)
      · exact ih (fun p hp => km p (List.mem_cons_of_mem _ hp)) x hx
  exact this r ks x hx
theorem nd_raw (ok : HOk P w H h) (e : Rd H d (NDo P w d n)) : (d == sysModules) = false ∧ ∃ es ep, h.DictRaw d es ep ∧ es.size = n.length ∧
    ∀ (i : Nat) p, n[i]? = some p → ∃ en : DictEntry, es[i]? = some en ∧ en.key = .ref p.2.1 ∧ ∃ t, en.val = .int p.2.2 t := by
  obtain ⟨a, b, xs, r, o, es, ep, h1, h2, h3, h4, h5⟩ := nd_rd ok e
  refine ⟨b, es, ep, ⟨o, h1, h2, h3⟩, by rw [size_of_entries h4, r.len], fun i p hp => ?_⟩
  obtain ⟨q, hq, e1, e2, t, e3⟩ := paired_get r hp
  have z := entry_at h4 i
  rw [hq] at z
  exact ⟨_, z, (by show Value.ref q.2.1 = _; rw [e2]), t, e3⟩
end
end K76

set_option Elab.async false
set_option linter.all false
set_option maxRecDepth 100000
/-! k76: rules for dicts with nested keys: make, read, store, compare with {}, sum, list, len, walks. -/
namespace K76
open PySem PySem.Spec PyProof.Rows L2
theorem hu8 {A : Around} {k : Nat} (hr : Room k A) : A.units + 16 < cLine := by have := hr.units; omega
section
variable {X : Cx} {pins : List (Addr × Obj)} {σ : L2.St} {H : Hp} {s : Shared} {d b : Addr} {n : NT} {k : List Span} {A : Around} {E : Value → Shared → Prop}
theorem nested_room (hu : A.units + 16 < cLine) : (nestedKind X.prog X.w).room A.in1 := by
  show A.units + 1 + 8 < cLine
  omega
theorem nested_room0 (hu : A.units + 16 < cLine) : (nestedKind X.prog X.w).room A := by
  show A.units + 8 < cLine
  omega
/-- d[k] -/
theorem n_get {v : Int} {Q : Value → Shared → Prop} (hu : A.units + 16 < cLine) (I : Inv X pins σ H s) (e : Rd H d (NDo X.prog X.w d n)) (ks : KeysAt H n) (ek : SpT H b k) (g : getN n k = some v)
    (q : ∀ t s', Inv X pins σ H s' → Q (.int v t) s') : wpAny (model X.prog X.w) A (getItem (.ref d) (.ref b)) Q E s := by
  obtain ⟨_, _, xs, r, dd⟩ := nd_dict I.hok e ks
  rcases r.at k with ⟨h1, _⟩ | ⟨v', a', t, h1, h2⟩
  · rw [h1] at g; cases g
  · rw [h1] at g; cases g
    exact wpAny_getItem_heap (nested_room hu) (key_is I.hok ek) dd h2 (q t _ (I.tok _))
/-- d.get(k, x), x an int -/
theorem n_getOr {i : Int} {u : Value} {Q : Value → Shared → Prop} (hu : A.units + 16 < cLine) (I : Inv X pins σ H s) (e : Rd H d (NDo X.prog X.w d n)) (ks : KeysAt H n) (ek : SpT H b k) (ru : RelV (.int i) u)
    (q : ∀ t s', Inv X pins σ H s' → Q (.int ((getN n k).getD i) t) s') : wpAny (model X.prog X.w) A (call (.builtin "dict.get") [.ref d, .ref b, u]) Q E s := by
  obtain ⟨_, hd, xs, r, dd⟩ := nd_dict I.hok e ks
  refine call_meetsIn F.slot_dict_get dd.typeIs F.entry_dict_get (F.args_dict_get_3 _ _ _) (meetsH_dict_get_default (nestedKind X.prog X.w) d b hd u)
    ⟨nested_room hu, nk k, xs, key_is I.hok ek, dd, ?_⟩
  rcases r.at k with ⟨h1, h2⟩ | ⟨v', a', t, h1, h2⟩
  · rw [h2]
    obtain ⟨t, rfl⟩ := ru
    have z := q t _ (I.tok (s.toks + (nestedKind X.prog X.w).draws (nk k)))
    rw [h1] at z
    exact z
  · rw [h2]
    have z := q t _ (I.tok (s.toks + (nestedKind X.prog X.w).draws (nk k)))
    rw [h1] at z
    exact z
/-- d[k] = v, v an int -/
theorem n_set {i : Int} {u : Value} {Q : Unit → Shared → Prop} (hu : A.units + 16 < cLine) (I : Inv X pins σ H s) (e : H d = some (NDo X.prog X.w d n)) (ks : KeysAt H n) (ek : SpT H b k) (ru : RelV (.int i) u) (hl : n.length < sizeLine)
    (q : ∀ s', Inv X pins σ (upd H d (NDo X.prog X.w d (putN n k b i))) s' → Q () s') : wpAny (model X.prog X.w) A (setItem (.ref d) (.ref b) u) Q E s := by
  obtain ⟨t, rfl⟩ := ru
  obtain ⟨hz, hd, xs, r, dd⟩ := nd_dict I.hok (.inl e) ks
  have hzx : xs.length ≤ sizeLine := by rw [← r.len]; exact hz
  refine wpAny_setItem_heap (hsz := hzx) (nested_room hu) (key_is I.hok ek) dd fun h' dd' hs => q _ ?_
  obtain ⟨o, es, ep, ho, h2, h3, h4, _, h5⟩ := dd'
  have hpl := putN_len n k b i
  refine d_write I (by rw [e]; exact True.intro) hs ⟨o, ho⟩ (nd_mk ⟨by omega, hd, _, r.put k b i t, o, es, ep, ho, h2, h3, h4, h5⟩)
theorem upd_keepT {H : Hp} {d : Addr} {o : HO} (h : ∀ xs, H d ≠ some (.tup xs)) : KeepT H (upd H d o) := fun c xs e => by
  rw [upd_ne (fun z => h xs (by rw [← z]; exact e))]
  exact e
theorem nd_keepT {H : Hp} {d : Addr} {n : NT} {P : Program} {w : World} {o : HO} (e : H d = some (NDo P w d n)) : KeepT H (upd H d o) := upd_keepT fun xs z => by
  rw [e] at z
  exact nomatch z
theorem new_keepT {H : Hp} {d : Addr} {o : HO} (e : H d = none) : KeepT H (upd H d o) := upd_keepT fun xs z => by
  rw [e] at z
  cases z
theorem Same.keepT {H H' : Hp} (h : Same H H') : KeepT H H' := fun b xs e => h b _ e
end

/-! ### expressions -/
/-- {} -/
def tNNew (P : Program) (w : World) : TE := fun _ H Q => ∀ d, H d = none → Q (.ref d) (upd H d (NDo P w d []))
/-- {k: i} -/
def tNOne (P : Program) (w : World) (tk tv : TE) : TE := fun σ H Q => ∀ d, H d = none → tPairs [(tk, tv)] σ (upd H d (NDo P w d [])) fun ps H2 => ∃ b k i, ps = [(.ref b, .int i)] ∧ SpT H2 b k ∧ H2 d = some (NDo P w d []) ∧
  Q (.ref d) (upd H2 d (NDo P w d [(k, b, i)]))
def tNGet (P : Program) (w : World) (td tk : TE) : TE := fun σ H Q => td σ H fun x H1 => tk σ H1 fun y H2 => ∃ d n b k v, x = .ref d ∧ y = .ref b ∧ Rd H2 d (NDo P w d n) ∧ KeysAt H2 n ∧ SpT H2 b k ∧ getN n k = some v ∧ Q (.int v) H2
def tNGetOr (P : Program) (w : World) (td tk tx : TE) : TE := fun σ H Q => td σ H fun x H1 => ∃ d n, x = .ref d ∧ Rd H1 d (NDo P w d n) ∧ tk σ H1 fun y H2 => tx σ H2 fun z H3 => ∃ b k i, y = .ref b ∧ z = .int i ∧
  Rd H3 d (NDo P w d n) ∧ KeysAt H3 n ∧ SpT H3 b k ∧ Q (.int ((getN n k).getD i)) H3
def sNPut (P : Program) (w : World) (td tk tv : TE) : TS := fun D σ H => tv σ H fun z H1 => td σ H1 fun x H2 => tk σ H2 fun y H3 => ∃ d n b k i, x = .ref d ∧ y = .ref b ∧ z = .int i ∧ H3 d = some (NDo P w d n) ∧ KeysAt H3 n ∧ SpT H3 b k ∧
  n.length < sizeLine ∧ D.nx σ (upd H3 d (NDo P w d (putN n k b i)))
/-- the view that d.values() gives -/
def NVo (v d : Addr) : HO := .ext fun h => h.IsValuesView v d
def tNVals (P : Program) (w : World) (td : TE) : TE := fun σ H Q => td σ H fun x H1 => ∃ d n, x = .ref d ∧ Rd H1 d (NDo P w d n) ∧ ∀ v, H1 v = none → Q (.ref v) (upd H1 v (NVo v d))
section
variable {X : Cx} {o i e f value : Expr} {pos pos' apos cpos : Pos} {td tk tv tx : TE}
theorem nd_empty {P : Program} {w : World} {H : Hp} (h : Heap) (hb : sysModules < h.objs.size) : ObjOk P w H (h.push { cls := .type "dict", data := .dict #[] }) h.objs.size (NDo P w h.objs.size []) :=
  nd_mk ⟨Nat.zero_le _, beq_eq_false_iff_ne.mpr (Nat.ne_of_gt hb), [], .nil, _, #[], 0, Heap.get?_push_size _ rfl, ⟨rfl, rfl, rfl⟩, rfl, rfl, List.nodup_nil⟩
theorem nd_laid {pins : List (Addr × Obj)} {σ : L2.St} {H : Hp} {s : Shared} (I : Inv X pins σ H s) :
    Inv X pins σ (upd H s.heap.objs.size (NDo X.prog X.w s.heap.objs.size [])) { s with heap := s.heap.push { cls := .type "dict", data := .dict #[] } } :=
  I.laid (t' := s.toks) (fun _ _ z => Heap.get?_push_of_some _ z) (Nat.le_refl _) (nd_empty s.heap I.big)
theorem pe_nnew : PE X (.Dict [] [] pos) (tNNew X.prog X.w) :=
  ⟨fun pins s σ H Q I h => wpAny_Dict_empty ⟨.ref s.heap.objs.size, _, nd_laid I, rfl, h _ (I.hok.fresh (Nat.le_refl _))⟩⟩
theorem pe_none1 (hu : X.A.units + 16 < cLine) (hk : PE X e tk) (hv : PE X f tv) : PE X (.Dict [some e] [f] pos) (tNOne X.prog X.w tk tv) := by
  refine ⟨fun pins s σ H Q I q => ?_⟩
  have hn := I.hok.fresh (Nat.le_refl s.heap.objs.size)
  have I1 := nd_laid I
  rw [arm_eval_Dict, show (evalEachOpt [some e] X.env).zip ((evalEach [f] X.env).map fun v => do let x ← v; standAt pos; pure x) = (pairTrees [some e] [f] X.env pos).map fun p => (some p.1, p.2) from rfl, dictDisplay_pairs _ (fun z => by cases z) (by show 1 < 17; decide)]
  refine wpAny_bind (wpAny_standAt (wpAny_bind (wpAny_subDictH (knd := nestedKind X.prog X.w) (nested_room0 hu) (by show 1 ≤ 15; decide) ?_)))
  refine thn ((pps_cons hk hv pps_nil).run pins _ σ _ _ I1 (q _ hn)) fun vs s2 h2 => ?_
  obtain ⟨ps, H2, I2, rel, b, k, i, e1, ek, ed, qq⟩ := h2
  subst e1
  cases rel with
  | cons h t =>
    cases t
    rename_i us
    obtain ⟨u1, u2⟩ := us
    obtain ⟨h1, t, h2⟩ := h
    cases (show u1 = Value.ref b from h1)
    cases (show u2 = Value.int i t from h2)
    obtain ⟨z, hd, xs, r, dd⟩ := nd_dict I2.hok (.inl ed) (fun p hp => nomatch hp)
    cases r
    refine ⟨[(nk k, b, .int i t)], ⟨rfl, rfl, key_is I2.hok ek, trivial⟩, dd, fun h' tk' dd' hs => wpAny_pure ⟨.ref s.heap.objs.size, _, ?_, rfl, qq⟩⟩
    obtain ⟨o, es, ep, ho, c2, c3, c4, _, c5⟩ := dd'
    exact d_write I2 (by rw [ed]; exact True.intro) hs ⟨o, ho⟩ (nd_mk ⟨(by show 1 ≤ sizeLine; decide), hd, [(nk k, b, .int i t)], .cons ⟨rfl, rfl, t, rfl⟩ .nil, o, es, ep, ho, c2, c3, c4, c5⟩)
theorem pe_nget (hu : X.A.units + 16 < cLine) (ho : PE X o td) (hi : PE X i tk) (hs : NoSl i) : PE X (.Subscript o i pos) (tNGet X.prog X.w td tk) := by
  refine ⟨fun pins s σ H Q I h => subD_of F.slot_dict_getitem.lookup hs (thn (ho.run pins s σ H _ I h) fun u s1 h1 => ?_)⟩
  obtain ⟨x, H1, I1, rx, q1⟩ := h1
  refine thn (hi.run pins s1 σ H1 _ I1 q1) fun iv s2 h2 => ?_
  obtain ⟨y, H2, I2, ry, d, n, b, k, v, rfl, rfl, e, ks, ek, g, q2⟩ := h2
  cases (show u = Value.ref d from rx)
  cases (show iv = Value.ref b from ry)
  refine ⟨(let ⟨_, es, ep, dr, _⟩ := nd_raw I2.hok e; dr.typeIs), n_get hu I2 e ks ek g fun t s3 I3 => ⟨.int v, H2, I3, ⟨t, rfl⟩, q2⟩⟩
theorem pe_ngetOr (hu : X.A.units + 16 < cLine) (ho : PE X o td) (he : PE X e tk) (hf : PE X f tx) (m : M2 X o "get" apos e f cpos) : PE X (.Call (.Attribute o "get" apos) [e, f] [] cpos) (tNGetOr X.prog X.w td tk tx) := by
  refine ⟨fun pins s σ H Q I h => ?_⟩
  refine wpAny_Call_method m.base m.few m.line F.plainAttrs_dict F.slot_dict_get F.type_dict_get (thn (ho.run pins s σ H _ I h) fun u s1 h1 => ?_)
  obtain ⟨x, H1, I1, rx, d, n, rfl, e1, q1⟩ := h1
  cases (show u = Value.ref d from rx)
  obtain ⟨_, es, ep, dr, _⟩ := nd_raw I1.hok e1
  refine ⟨dr.typeIs, fun c z => ?_, ?_⟩
  · cases z
    obtain ⟨ob, g1, g2, _⟩ := dr
    exact ⟨ob, g1, g2.2.1⟩
  rw [m.trees]
  refine Calls.callWith_builtin rfl (Calls.evalArgs_plain (Calls.spliced_cons (thn (he.run pins s1 σ H1 _ I1 q1) fun iv s2 h2 => ?_)))
  obtain ⟨y, H2, I2, ry, q2⟩ := h2
  refine Calls.spliced_cons (thn (hf.run pins s2 σ H2 _ I2 q2) fun fv s3 h3 => Calls.spliced_nil ?_)
  obtain ⟨z, H3, I3, rz, b, k, i, rfl, rfl, e3, ks, ek, q3⟩ := h3
  cases (show iv = Value.ref b from ry)
  exact n_getOr hu I3 e3 ks ek rz fun t s4 I4 => ⟨.int _, H3, I4, ⟨t, rfl⟩, q3⟩
theorem ps_nput (hu : X.A.units + 16 < cLine) (ho : PE X o td) (hi : PE X i tk) (hv : PE X value tv) (hs : swapsWith value (some (.Subscript o i pos')) pos.line X.env = pure false) :
    PS X (.Assign [.Subscript o i pos'] value pos) (sNPut X.prog X.w td tk tv) := by
  refine ⟨fun pins s σ H D I h => wpAny_Assign_Subscript (thn (hv.run pins s σ H _ I h) fun r s1 h1 => ?_) hs⟩
  obtain ⟨z, H1, I1, rz, q1⟩ := h1
  refine thn (ho.run pins s1 σ H1 _ I1 q1) fun u s2 h2 => ?_
  obtain ⟨x, H2, I2, rx, q2⟩ := h2
  refine thn (hi.run pins s2 σ H2 _ I2 q2) fun iv s3 h3 => ?_
  obtain ⟨y, H3, I3, ry, d, n, b, k, v, rfl, rfl, rfl, e, ks, ek, hl, q3⟩ := h3
  cases (show u = Value.ref d from rx)
  cases (show iv = Value.ref b from ry)
  exact n_set hu I3 e ks ek rz hl fun s4 I4 => ⟨σ, _, I4, q3⟩

/-! ### compared with {} -/
theorem same_raw {prog : Program} {w : World} {A : Around} {E : Value → Shared → Prop} {s : Shared} {nm : String} {a b : Addr} {es : Array DictEntry} {ep ep' : Nat} {Q : Bool → Shared → Prop} (ha : (a == sysModules) = false) (hb : (b == sysModules) = false)
    (da : s.heap.DictRaw a es ep) (db : s.heap.DictRaw b #[] ep') (h : Q (es.size == 0) s) : wpAny (model prog w) A (Builtin.Dict.samePairs nm a b) Q E s := by
  obtain ⟨oa, e1, _, d1⟩ := da
  obtain ⟨ob, e2, _, d2⟩ := db
  unfold Builtin.Dict.samePairs Builtin.Dict.showsAll
  rw [ha, hb]
  simp only [Bool.false_eq_true, if_false]
  refine wpAny_bind (wpAny_pure (wpAny_bind (wpAny_pure (wpAny_bind (wpAny_dictEntries e1 d1 ?_)))))
  refine wpAny_bind (wpAny_dictEntries e2 d2 ?_)
  by_cases z : es.size = 0
  · have hz : (es.size != (#[] : Array DictEntry).size) = false := by simp [z]
    rw [if_neg (by rw [hz]; exact Bool.false_ne_true)]
    refine wpAny_bind (wpAny_dictEpoch e1 d1 ?_)
    rw [z]
    rw [z] at h
    simp only [Std.Legacy.Range.forIn_eq_forIn_range', Std.Legacy.Range.size, Nat.sub_zero]
    exact wpAny_bind (wpAny_pure (wpAny_pure h))
  · have hz : (es.size != (#[] : Array DictEntry).size) = true := by simpa using z
    have hb : (es.size == 0) = false := by simpa using z
    rw [if_pos hz]
    rw [hb] at h
    exact wpAny_bind (wpAny_rule (wpAny_pure h))
theorem eq_raw {prog : Program} {w : World} {A : Around} {E : Value → Shared → Prop} {s : Shared} {a b : Addr} {es : Array DictEntry} {ep ep' : Nat} {Q : Value → Shared → Prop} (hu : A.units < cLine) (ha : (a == sysModules) = false) (hb : (b == sysModules) = false)
    (da : s.heap.DictRaw a es ep) (db : s.heap.DictRaw b #[] ep') (h : Q (.bool (es.size == 0)) s) : wpAny (model prog w) A (compareOp .Eq (.ref a) (.ref b)) Q E s := by
  refine wpAny_richCompare_same_room (op := .Eq) da.typeIs db.typeIs F.slot_dict_eq (wpAny_call_entry F.slot_dict_eq da.typeIs F.entry_dict_eq ?_ (F.args_dict_eq_2 _ _)) hu
  show wpAny _ _ (Builtin.Dict.dictSlotArgs "__eq__" ⟨[.ref a, .ref b], []⟩ >>= _) _ _ s
  refine wpAny_bind ?_
  unfold Builtin.Dict.dictSlotArgs
  refine wpAny_bind (wpAny_notOrdered_dict da.typeIs (wpAny_pure ?_))
  refine wpAny_bind (wpAny_isInstance (T := "dict") db.typeIs F.sub_dict_dict ?_)
  simp only [Bool.not_true, Bool.false_eq_true, if_false]
  refine wpAny_bind (wpAny_pure (wpAny_bind (wpAny_pure (wpAny_bind (same_raw ha hb da db ?_)))))
  exact wpAny_pure ⟨_, rfl, ⟨(by intro x; cases x), by simpa using h⟩⟩
theorem ne_raw {prog : Program} {w : World} {A : Around} {E : Value → Shared → Prop} {s : Shared} {a b : Addr} {es : Array DictEntry} {ep ep' : Nat} {Q : Value → Shared → Prop} (hu : A.units < cLine) (ha : (a == sysModules) = false) (hb : (b == sysModules) = false)
    (da : s.heap.DictRaw a es ep) (db : s.heap.DictRaw b #[] ep') (h : Q (.bool (!(es.size == 0))) s) : wpAny (model prog w) A (compareOp .NotEq (.ref a) (.ref b)) Q E s := by
  refine wpAny_richCompare_same_room (op := .NotEq) da.typeIs db.typeIs F.slot_dict_ne (wpAny_call_entry F.slot_dict_ne da.typeIs F.entry_dict_ne ?_ (F.args_dict_ne_2 _ _)) hu
  show wpAny _ _ (Builtin.Dict.dictSlotArgs "__ne__" ⟨[.ref a, .ref b], []⟩ >>= _) _ _ s
  refine wpAny_bind ?_
  unfold Builtin.Dict.dictSlotArgs
  refine wpAny_bind (wpAny_notOrdered_dict da.typeIs (wpAny_pure ?_))
  refine wpAny_bind (wpAny_isInstance (T := "dict") db.typeIs F.sub_dict_dict ?_)
  simp only [Bool.not_true, Bool.false_eq_true, if_false]
  refine wpAny_bind (wpAny_pure (wpAny_bind (wpAny_pure (wpAny_bind (same_raw ha hb da db ?_)))))
  exact wpAny_pure ⟨_, rfl, ⟨(by intro x; cases x), by simpa using h⟩⟩
theorem raw_empty {pins : List (Addr × Obj)} {σ : L2.St} {H : Hp} {s : Shared} {b : Addr} (I : Inv X pins σ H s) (e : H b = some (.dK [])) : (b == sysModules) = false ∧ ∃ ep, s.heap.DictRaw b #[] ep := by
  obtain ⟨_, hd, vs, r, dd⟩ := dk_of I.hok e
  cases r
  obtain ⟨o, es, ep, h1, h2, h3, h4⟩ := dd
  have z : es = #[] := by
    have := h4.2.1.length
    simpa using this
  subst z
  exact ⟨hd, ep, o, h1, h2, h3⟩
def rNEmp (P : Program) (w : World) (g : Bool → Bool) : R2 := fun x y H Q => ∃ a b n, x = .ref a ∧ y = .ref b ∧ Rd H a (NDo P w a n) ∧ H b = some (.dK []) ∧ Q (.bl (g n.isEmpty)) H
theorem op_nEq (hu : X.A.units < cLine) : OpR X (compareOp .Eq) (rNEmp X.prog X.w id) := by
  intro pins s σ H x y v u Q I rx ry h
  obtain ⟨a, b, n, rfl, rfl, ea, eb, q⟩ := h
  cases (show v = Value.ref a from rx)
  cases (show u = Value.ref b from ry)
  obtain ⟨ha, es, ep, da, sz, _⟩ := nd_raw I.hok ea
  obtain ⟨hb, ep', db⟩ := raw_empty I eb
  refine eq_raw hu ha hb da db (fin_bl I q ?_)
  rw [sz]
  cases n <;> simp
theorem op_nNe (hu : X.A.units < cLine) : OpR X (compareOp .NotEq) (rNEmp X.prog X.w not) := by
  intro pins s σ H x y v u Q I rx ry h
  obtain ⟨a, b, n, rfl, rfl, ea, eb, q⟩ := h
  cases (show v = Value.ref a from rx)
  cases (show u = Value.ref b from ry)
  obtain ⟨ha, es, ep, da, sz, _⟩ := nd_raw I.hok ea
  obtain ⟨hb, ep', db⟩ := raw_empty I eb
  refine ne_raw hu ha hb da db (fin_bl I q ?_)
  rw [sz]
  cases n <;> simp

/-! ### len, list, sum of the values -/
theorem cr_nlen : CallR X (.builtin "len") (fun xs H Q => ∃ d n, xs = [.ref d] ∧ Rd H d (NDo X.prog X.w d n) ∧ Q (.int n.length) H) := by
  intro pins s σ H xs us Q I r h
  obtain ⟨d, n, rfl, e, q⟩ := h
  obtain ⟨u, rfl, ru⟩ := vals1 r
  cases (show u = Value.ref d from ru)
  obtain ⟨hd, es, ep, dr, sz, _⟩ := nd_raw I.hok e
  have hz : n.length ≤ sizeLine := (nd_rd I.hok e).1
  rw [sizeLine_eq] at hz
  refine call_len_slot (n := (es.size : Nat)) dr.typeIs F.slot_dict_len (fun Q' hq => call_len_raw hd dr hq) (by omega) (by omega) ?_
  rw [sz]
  exact ⟨.int n.length, H, I.tok _, ⟨_, rfl⟩, q⟩
theorem cr_nlist (hc : X.calm = true) : CallR X (.type "list") (fun xs H Q => ∃ d n, xs = [.ref d] ∧ Rd H d (NDo X.prog X.w d n) ∧ ∀ l, H l = none → Q (.ref l) (upd H l (.lst (n.map fun p => V.ref p.2.1)))) := by
  intro pins s σ H xs us Q I r h
  obtain ⟨d, n, rfl, e, q⟩ := h
  obtain ⟨u, rfl, ru⟩ := vals1 r
  cases (show u = Value.ref d from ru)
  obtain ⟨hd, es, ep, dr, sz, ent⟩ := nd_raw I.hok e
  have hz : n.length ≤ sizeLine := (nd_rd I.hok e).1
  refine PySem.W.kdl_call (KdlSrc.rawDict hd) (I.ok.hd hc) dr (by omega) fun h' tk acc c hk hD hacc => ?_
  have rel : Vals (n.map fun p => V.ref p.2.1) acc.toList := by
    obtain ⟨l1, l2⟩ := hacc
    have key : ∀ (n : NT) (us : List Value) (j : Nat), us.length = n.length → (∀ (i : Nat) p u, n[i]? = some p → us[i]? = some u → u = .ref p.2.1) → Vals (n.map fun p => V.ref p.2.1) us := by
      intro n
      induction n with
      | nil => intro us j hl _; rw [List.eq_nil_of_length_eq_zero hl]; exact .nil
      | cons p r ih =>
        intro us j hl hh
        cases us with
        | nil => simp at hl
        | cons u ur => exact .cons (hh 0 p u rfl rfl) (ih ur j (by simpa using hl) fun i p' u' a b => hh (i + 1) p' u' (by simpa using a) (by simpa using b))
    refine key n _ 0 (by rw [Array.length_toList, l1, sz]) fun i p u hp hu => ?_
    obtain ⟨en, he, hk, _⟩ := ent i p hp
    obtain ⟨hi, e3⟩ := l2 i u (by rw [← Array.getElem?_toList]; exact hu)
    have : es[i] = en := Option.some.inj ((Array.getElem?_eq_getElem hi).symm.trans he)
    rw [e3, this, hk]
  refine ⟨.ref s.heap.objs.size, _, I.laid (t' := tk) (o := .lst (n.map fun p => V.ref p.2.1)) hk (Nat.le_refl _) ⟨by rw [List.length_map]; exact hz, acc.toList, c, rel, by simpa using hD⟩, rfl, q _ (I.hok.fresh (Nat.le_refl _))⟩
def sumN (n : NT) : Int := (n.map fun p => p.2.2).sum
theorem pe_nvals (ho : PE X o td) (hbase : attributeBase o "values" X.env (eval o X.env) = eval o X.env := by rfl) (hline : (apos.endLine == cpos.line) = true := by rfl) : PE X (.Call (.Attribute o "values" apos) [] [] cpos) (tNVals X.prog X.w td) := by
  refine ⟨fun pins s σ H Q I h => ?_⟩
  refine wpAny_Call_method (T := "dict") (id := "dict.values") hbase rfl hline F.plainAttrs_dict F.slot_dict_values F.type_dict_values (thn (ho.run pins s σ H _ I h) fun u s1 h1 => ?_)
  obtain ⟨x, H1, I1, rx, d, n, rfl, e1, q1⟩ := h1
  cases (show u = Value.ref d from rx)
  obtain ⟨hd, es, ep, dr, _⟩ := nd_raw I1.hok e1
  refine ⟨dr.typeIs, fun c z => ?_, ?_⟩
  · cases z
    obtain ⟨ob, g1, g2, _⟩ := dr
    exact ⟨ob, g1, g2.2.1⟩
  show wpAny _ _ (callWith cpos (.builtin "dict.values") [.ref d] [] []) _ X.xe s1
  refine method_meetsIn F.slot_dict_values F.entry_dict_values rfl (PySem.evalArgs_none ⟨rfl, dr.typeIs, F.args_dict_values_1 _, _, meets_dict_values_raw d hd, ⟨es, ep, dr⟩, ?_⟩)
  refine ⟨.ref s1.heap.objs.size, _, I1.laid (t' := s1.toks) (o := NVo s1.heap.objs.size d) (fun _ _ z => Heap.get?_push_of_some _ z) (Nat.le_refl _) ⟨⟨_, Heap.get?_push_size _ rfl, rfl, rfl⟩, ⟨_, Heap.get?_push_size _ rfl⟩, fun h1 h2 ⟨o, a1, a2⟩ k => ⟨o, k o a1, a2⟩⟩, rfl, q1 _ (I1.hok.fresh (Nat.le_refl _))⟩
theorem preSum_take (val : Nat → Int) (ns : List Int) (h : ∀ (i : Nat) x, ns[i]? = some x → val i = x) : ∀ k, k ≤ ns.length → preSum val k = (ns.take k).sum
  | 0, _ => rfl
  | k + 1, hk => by
    have e : ns[k]? = some (ns[k]'(by omega)) := List.getElem?_eq_getElem _
    show preSum val k + val k = _
    rw [preSum_take val ns h k (by omega), h k _ e, List.take_add_one, e, List.sum_append]
    simp only [Option.toList_some, List.sum_cons, List.sum_nil]
    omega
theorem preSum_list (val : Nat → Int) (ns : List Int) (h : ∀ (i : Nat) x, ns[i]? = some x → val i = x) : preSum val ns.length = ns.sum := by
  rw [preSum_take val ns h _ (Nat.le_refl _), List.take_length]
theorem cr_nsum (hc : X.calm = true) : CallR X (.builtin "sum") (fun xs H Q => ∃ v d n, xs = [.ref v] ∧ H v = some (NVo v d) ∧ Rd H d (NDo X.prog X.w d n) ∧ Q (.int (sumN n)) H) := by
  intro pins s σ H xs us Q I r h
  obtain ⟨v, d, n, rfl, ev, e, q⟩ := h
  obtain ⟨u, rfl, ru⟩ := vals1 r
  cases (show u = Value.ref v from ru)
  obtain ⟨hd, es, ep, dr, sz, ent⟩ := nd_raw I.hok e
  have hv : s.heap.IsValuesView v d := (show ObjOk X.prog X.w H s.heap v (NVo v d) from I.hok v _ ev).1
  have hdl : d < s.heap.objs.size := let ⟨_, ho, _⟩ := dr; Heap.lt_size ho
  refine call_sum_walkG (wpAny_pyIter_values_raw hv dr ?_)
  refine ⟨s.heap.objs.size, [s.heap.objs.size, d], [s.heap.objs.size], es.size, _, _, fun i => ((n.map fun p => p.2.2)[i]?).getD 0, rfl,
    Walks.rawValues (A := X.A.in1) (I.ok.hd hc) s.heap.objs.size d (Nat.ne_of_lt hdl) es ep, ⟨⟨_, Heap.get?_push_size _ rfl, rfl, rfl⟩, dr.at fun o e => Heap.get?_push_of_some _ e⟩, fun b hb => ?_, fun i v' hi => ?_, fun h' tk t' hk => ?_⟩
  · have hb' : b = s.heap.objs.size ∨ b = d := by simpa using hb
    show b < (s.heap.push _).objs.size
    rw [Heap.size_push]
    rcases hb' with z | z
    · rw [z]; exact Nat.lt_succ_self _
    · rw [z]; exact Nat.lt_succ_of_lt hdl
  · obtain ⟨hi, rfl⟩ := hi
    have hn : i < n.length := by omega
    obtain ⟨en, he, _, t, hv'⟩ := ent i _ (List.getElem?_eq_getElem hn)
    have : es[i] = en := Option.some.inj ((Array.getElem?_eq_getElem hi).symm.trans he)
    refine ⟨t, ?_⟩
    rw [this, hv']
    show _ = Value.int (((n.map fun p => p.2.2)[i]?).getD 0) t
    rw [List.getElem?_map, List.getElem?_eq_getElem hn]
    rfl
  · refine ⟨.int (sumN n), H, I.kept (t' := tk) fun b o hb => ?_, ⟨t', ?_⟩, q⟩
    · exact hk b o (fun z => by
        have z' : b = s.heap.objs.size := by simpa using z
        exact absurd (Heap.lt_size hb) (by rw [z']; exact Nat.lt_irrefl _)) (Heap.get?_push_of_some _ hb)
    · have z := preSum_list (fun i => ((n.map fun p => p.2.2)[i]?).getD 0) (n.map fun p => p.2.2) fun i x e => by rw [e]; rfl
      rw [List.length_map] at z
      rw [sz, z]
      rfl
end

/-! ### walks: keys, items -/
def Jnk (P : Program) (w : World) (d : Addr) (o : Obj) (n : NT) : It :=
  ⟨fun i H => H d = some (.frz o (NDo P w d n)) ∧ i < n.length, fun i H x H' => H' = H ∧ ∃ p, n[i]? = some p ∧ x = .ref p.2.1, fun i H => H d = some (.frz o (NDo P w d n)) ∧ n.length ≤ i⟩
def Jni (P : Program) (w : World) (d : Addr) (o : Obj) (n : NT) : It :=
  ⟨fun i H => H d = some (.frz o (NDo P w d n)) ∧ i < n.length, fun i H x H' => ∃ T p, n[i]? = some p ∧ x = .ref T ∧ H T = none ∧ H' = upd H T (.tup [.ref p.2.1, .int p.2.2]), fun i H => H d = some (.frz o (NDo P w d n)) ∧ n.length ≤ i⟩
section
variable {X : Cx} {pins : List (Addr × Obj)} {σ : L2.St} {H : Hp} {s : Shared} {d : Addr} {o : Obj} {n : NT}
theorem frzN (I : Inv X pins σ H s) (h : H d = some (.frz o (NDo X.prog X.w d n))) : (d == sysModules) = false ∧ s.heap.get? d = some o ∧ ∃ es ep, o.ExactDict ∧ o.data = .dict es ep ∧ s.heap.DictRaw d es ep ∧ es.size = n.length ∧
    ∀ (i : Nat) p, n[i]? = some p → ∃ en : DictEntry, es[i]? = some en ∧ en.key = .ref p.2.1 ∧ ∃ t, en.val = .int p.2.2 t := by
  have q := nd_raw I.hok (.inr ⟨o, h⟩)
  obtain ⟨e, _⟩ := (show ObjOk X.prog X.w H s.heap d (.frz o (NDo X.prog X.w d n)) from I.hok d _ h)
  obtain ⟨hd, es, ep, dr, sz, ent⟩ := q
  obtain ⟨o', e', x, dt⟩ := id dr
  rw [e] at e'; cases e'
  exact ⟨hd, e, es, ep, x, dt, dr, sz, ent⟩
end
theorem turn_nk {P : Program} {w : World} {K : PySem.W.Frag} {tg : Expr} {d : Addr} {o : Obj} {es : Array DictEntry} {ep : Nat} {n : NT} (it : Addr) (hod : o.data = .dict es ep) :
    Turn P w K tg (Jnk P w d o n) [it] it (fun i h => h.IsKeyIter it d i n.length ep) where
  mem := List.mem_singleton.mpr rfl
  obj := fun i h st b hb => by
    rw [List.mem_singleton.mp hb]
    obtain ⟨oi, e, _, dd⟩ := st
    exact ⟨oi, e, fun v z => by rw [dd] at z; cases z⟩
  keep := fun i h h' st k => st.at fun oi e => k it (List.mem_singleton.mpr rfl) oi e
  item := by
    intro X hP hw hK hc i pins s σ H E I hf st hg
    subst hP hw hK
    obtain ⟨hd, hi⟩ := hg
    obtain ⟨f0, f1, f2, f3, f4, f5⟩ := hf it (List.mem_singleton.mpr rfl)
    obtain ⟨_, hgd, es', ep', _, hdt, _, hsz, ent⟩ := frzN I hd
    obtain ⟨rfl, rfl⟩ := dict_ep hod hdt
    obtain ⟨en, hen, hkey, _⟩ := ent i _ (List.getElem?_eq_getElem hi)
    refine next_key_item st hgd hdt hsz hen fun h' st' sb => ?_
    have I1 : Inv X pins σ H { s with heap := h' } := I.turned (t' := s.toks) (fun b ob hb e => (sb.2 b hb).trans e) f0 f1 f3 f4 f5
    obtain ⟨oi, e, c, dd⟩ := id st'
    exact ⟨en.key, rfl, go_of (s := { s with heap := h' }) e c dd (by decide) ⟨.ref n[i].2.1, H, I1, hkey, ⟨rfl, _, List.getElem?_eq_getElem hi, rfl⟩, st', fun b hb => (hf b hb).1⟩⟩
  done := by
    intro X hP hw hK hc i pins s σ H E I hf st hg
    subst hP hw hK
    obtain ⟨hd, hi⟩ := hg
    obtain ⟨f0, f1, f2, f3, f4, f5⟩ := hf it (List.mem_singleton.mpr rfl)
    obtain ⟨_, hgd, es', ep', _, hdt, _, hsz, _⟩ := frzN I hd
    obtain ⟨rfl, rfl⟩ := dict_ep hod hdt
    exact next_key_end (I.ok.hd hc) st hgd hdt hsz hi fun h' eb => ⟨rfl, I.turned (t' := s.toks) (fun b ob hb e => eb b ob hb e) f0 f1 f3 f4 f5⟩
  self := fun A i s Q E st h => wpAny_pyIter_keyiter st h
theorem turn_ni {P : Program} {w : World} {K : PySem.W.Frag} {elts : List Expr} {kk : Nat} {tpos : Pos} {d : Addr} {o : Obj} {es : Array DictEntry} {ep : Nat} {n : NT} (it : Addr) (hod : o.data = .dict es ep) :
    Turn P w K (.Tuple elts kk tpos) (Jni P w d o n) [it] it (fun i h => ∃ ok ov, IsItemIter h it d i n.length ep ok ov) where
  mem := List.mem_singleton.mpr rfl
  obj := fun i h st b hb => by
    rw [List.mem_singleton.mp hb]
    obtain ⟨_, _, e⟩ := st
    exact ⟨_, e, fun v z => nomatch z⟩
  keep := fun i h h' st k => by
    obtain ⟨a, b, e⟩ := st
    exact ⟨a, b, k it (List.mem_singleton.mpr rfl) _ e⟩
  item := by
    intro X hP hw hK hc i pins s σ H E I hf st hg
    subst hP hw hK
    obtain ⟨hd, hi⟩ := hg
    obtain ⟨_, hgd, es', ep', _, hdt, dr, hsz, ent⟩ := frzN I hd
    obtain ⟨rfl, rfl⟩ := dict_ep hod hdt
    obtain ⟨en, hen, hkey, t, hval⟩ := ent i _ (List.getElem?_eq_getElem hi)
    obtain ⟨a, b, he⟩ := st
    rw [← hsz] at he
    have hi' : i < es'.size := by omega
    have hei : es'[i] = en := Option.some.inj ((Array.getElem?_eq_getElem hi').symm.trans hen)
    have hlt : it < s.heap.objs.size := Heap.lt_size he
    refine wpAny_pyNext_items_item_raw he dr hi' fun h' ho hT hz hk => ?_
    refine ⟨_, rfl, wpAny_letOwnedTupleGo_items (s := { s with heap := h' }) ho fun h'' he' sb => ?_⟩
    have hT2 := (sb.2 _ (Nat.ne_of_gt hlt)).trans hT
    rw [hei, hkey, hval] at hT2
    have new : ObjOk X.prog X.w (upd H s.heap.objs.size (.tup [.ref n[i].2.1, .int n[i].2.2])) h'' s.heap.objs.size (.tup [.ref n[i].2.1, .int n[i].2.2]) :=
      ⟨(by show 2 ≤ sizeLine; decide), [.ref n[i].2.1, .int n[i].2.2 t], .cons rfl (.cons ⟨t, rfl⟩ .nil), ⟨_, hT2, rfl, _, rfl⟩⟩
    have I1 := I.turnedNew (t' := s.toks) (ch := [it]) (fun c ob hb e => (sb.2 c (by simpa using hb)).trans (hk c ob (by simpa using hb) e)) hf (Nat.le_refl _) new
    refine ⟨.ref s.heap.objs.size, _, I1, rfl, ⟨_, _, List.getElem?_eq_getElem hi, rfl, I.hok.fresh (Nat.le_refl _), rfl⟩, ⟨_, _, by rw [← hsz]; exact he'⟩, fun c hb => ?_⟩
    rw [List.mem_singleton.mp hb, upd_ne (Nat.ne_of_lt hlt)]
    exact (hf it (List.mem_singleton.mpr rfl)).1
  done := by
    intro X hP hw hK hc i pins s σ H E I hf st hg
    subst hP hw hK
    obtain ⟨hd, hi⟩ := hg
    obtain ⟨f0, f1, f2, f3, f4, f5⟩ := hf it (List.mem_singleton.mpr rfl)
    obtain ⟨_, hgd, es', ep', _, hdt, dr, hsz, _⟩ := frzN I hd
    obtain ⟨rfl, rfl⟩ := dict_ep hod hdt
    obtain ⟨a, b, he⟩ := st
    rw [← hsz] at he
    exact wpAny_pyNext_items_end_raw (I.ok.hd hc) he dr (by omega) fun h' eb => ⟨rfl, I.turned (t' := s.toks) (fun c ob hb e => eb c ob hb e) f0 f1 f3 f4 f5⟩
  self := fun A i s Q E st h => by
    obtain ⟨a, b, e⟩ := st
    exact wpAny_pyIter_itemiter e h
def iNKeys (P : Program) (w : World) (td : TE) : TI := fun σ H R => td σ H fun x H1 => ∃ d o n, x = .ref d ∧ H1 d = some (.frz o (NDo P w d n)) ∧ R (Jnk P w d o n) H1
def iNItems (P : Program) (w : World) (td : TE) : TI := fun σ H R => td σ H fun x H1 => ∃ d o n, x = .ref d ∧ H1 d = some (.frz o (NDo P w d n)) ∧ R (Jni P w d o n) H1
section
variable {X : Cx} {tg e : Expr} {td : TE} {apos cpos : Pos}
theorem pi_nkeys (he : PE X e td) : PI X tg e (iNKeys X.prog X.w td) := by
  refine ⟨fun pins s σ H R I h => thn (he.run pins s σ H _ I h) fun u s1 h1 => ?_⟩
  obtain ⟨x, H1, I1, rx, d, o, n, rfl, hd, q⟩ := h1
  cases (show u = Value.ref d from rx)
  obtain ⟨hs, hgd, es, ep, hx, hdt, _, hsz, _⟩ := frzN I1 hd
  refine iter_keys hs hgd hx hdt (pi_one (tk := s1.toks) I1 _ (turn_nk _ hdt) ⟨_, Heap.get?_push_size _ rfl, rfl, ?_⟩ q)
  rw [hsz]
  rfl
theorem pi_nitems {elts : List Expr} {kk : Nat} {tpos : Pos} (he : PE X e td) (hbase : attributeBase e "items" X.env (eval e X.env) = eval e X.env := by rfl) (hline : (apos.endLine == cpos.line) = true := by rfl) :
    PI X (.Tuple elts kk tpos) (.Call (.Attribute e "items" apos) [] [] cpos) (iNItems X.prog X.w td) := by
  refine ⟨fun pins s σ H R I h => ?_⟩
  refine wpAny_Call_method (T := "dict") (id := "dict.items") hbase rfl hline F.plainAttrs_dict F.slot_dict_items F.type_dict_items (thn (he.run pins s σ H _ I h) fun u s1 h1 => ?_)
  obtain ⟨x, H1, I1, rx, d, o, n, rfl, hd, q⟩ := h1
  cases (show u = Value.ref d from rx)
  obtain ⟨hs, hgd, es, ep, hx, hdt, dr, hsz, _⟩ := frzN I1 hd
  refine ⟨dr.typeIs, fun c z => by cases z; exact ⟨o, hgd, hx.2.1⟩, ?_⟩
  show wpAny _ _ (callWith cpos (.builtin "dict.items") [.ref d] [] []) _ X.xe s1
  refine method_meetsIn F.slot_dict_items F.entry_dict_items rfl (PySem.evalArgs_none ⟨rfl, dr.typeIs, F.args_dict_items_1 _, _, meets_dict_items_raw d hs, ⟨es, ep, dr⟩, ?_⟩)
  have I2 : Inv X pins σ H1 { s1 with heap := s1.heap.push { cls := .type "dict_items", data := .fields #[.ref d] } } := I1.kept (t' := s1.toks) fun b ob z => Heap.get?_push_of_some _ z
  refine wpAny_pyIter_items_raw (d := d) ⟨_, Heap.get?_push_size _ rfl, rfl, rfl⟩ (dr.at fun ob z => Heap.get?_push_of_some _ z) (pi_one (tk := s1.toks) I2 _ (turn_ni _ hdt) ⟨.none, .none, ?_⟩ q)
  rw [hsz]
  exact Heap.get?_push_size _ rfl
theorem walk_nk {P : Program} {w : World} {d : Addr} {o : Obj} {n : NT} : Walk (Jnk P w d o n) n.length (fun H => H d = some (.frz o (NDo P w d n))) (fun i H x H' => H' = H ∧ ∃ p, n[i]? = some p ∧ x = .ref p.2.1) :=
  ⟨fun _ _ hi q => ⟨q, hi⟩, fun _ q => ⟨q, Nat.le_refl _⟩, fun _ _ _ _ _ _ y => y⟩
theorem walk_ni {P : Program} {w : World} {d : Addr} {o : Obj} {n : NT} : Walk (Jni P w d o n) n.length (fun H => H d = some (.frz o (NDo P w d n)))
    (fun i H x H' => ∃ T p, n[i]? = some p ∧ x = .ref T ∧ H T = none ∧ H' = upd H T (.tup [.ref p.2.1, .int p.2.2])) :=
  ⟨fun _ _ hi q => ⟨q, hi⟩, fun _ q => ⟨q, Nat.le_refl _⟩, fun _ _ _ _ _ _ y => y⟩
end
end K76

set_option Elab.async false
set_option linter.all false
set_option maxRecDepth 100000
set_option maxHeartbeats 4000000
/-! k76: sets of texts: set(list), sorted(set). -/
namespace K76
open PySem PySem.Spec PyProof.Rows L2
theorem strOf_eq {P : Program} {w : World} {y : Str} {v : Value} (h : (PySem.strKind P w).is y v = true) : ∃ t, v = .str y t := Value.isStrOf_shape (x := y) (v := v) h
def TxE (P : Program) (w : World) (e : Int × Value) : Prop := ∃ y tk, e.2 = Value.str y tk ∧ e.1 = (PySem.strKind P w).hash y
def txOf (e : Int × Value) : Str := strOf e.2
/-- the set of the texts S -/
def SetS (P : Program) (w : World) (h : Heap) (a : Addr) (S : List Str) (n : Nat) : Prop := ∃ o es ep t, h.get? a = some o ∧ o.ExactSet ∧ o.data = .set es ep t ∧ (∀ e ∈ es.toList, TxE P w e) ∧ (es.toList.map txOf).Nodup ∧
  (∀ y, y ∈ es.toList.map txOf ↔ y ∈ S) ∧ es.size ≤ n ∧ n < 1000 ∧ t.fits es.size = true ∧ Ris t.place.toList ∧ (w.params.followText "set-order" = true ∨ t.led = true)
section
variable {P : Program} {w : World} {h h' : Heap} {a : Addr} {S : List Str} {n : Nat}
theorem SetS.at (R : SetS P w h a S n) (k : ∀ o, h.get? a = some o → h'.get? a = some o) : SetS P w h' a S n := by
  obtain ⟨o, es, ep, t, ho, r⟩ := R
  exact ⟨o, es, ep, t, k o ho, r⟩
theorem txe_elems {l : List (Int × Value)} (g : ∀ e ∈ l, TxE P w e) : ElemsOf (PySem.strKind P w) l := fun e he => by
  obtain ⟨y, tk, e1, e2⟩ := g e he
  exact ⟨⟨y, by rw [e1]; exact strKind_is P w y tk, e2⟩, by rw [e1] <;> rfl⟩
theorem txe_is {e : Int × Value} (g : TxE P w e) (y : Str) : (PySem.strKind P w).is y e.2 = true ↔ txOf e = y := by
  obtain ⟨z, tk, e1, _⟩ := g
  unfold txOf
  rw [e1]
  constructor
  · intro q
    obtain ⟨t, q⟩ := strOf_eq q
    cases q
    rfl
  · intro q
    have q' : z = y := q
    rw [q']
    exact strKind_is P w y tk
end
section
variable {P : Program} {w : World} {A : Around} {E : Value → Shared → Prop} {s : Shared} {a : Addr} {S : List Str} {n : Nat}
theorem sets_tail {gv : Bool → Sem Unit} (hg : ∀ (b : Bool) (s1 : Shared) (Q1 : Unit → Shared → Prop), Q1 () s1 → wpAny (model P w) A (gv b) Q1 E s1) {o : Obj} {es : Array (Int × Value)} {ep : Nat} {t : SetTable} (hob : s.heap.get? a = some o)
    (hex : o.ExactSet) (hdt : o.data = .set es ep t) {fs : Array (Int × Value)} {t2 : SetTable} {S' : List Str} {n' : Nat} (g1 : ∀ e ∈ fs.toList, TxE P w e) (nd1 : (fs.toList.map txOf).Nodup) (m1 : ∀ y, y ∈ fs.toList.map txOf ↔ y ∈ S')
    (hb1 : fs.size ≤ n') (hb2 : n' < 1000) (hf2 : t2.fits fs.size = true) (hrs : Ris t2.place.toList) (hld : w.params.followText "set-order" = true ∨ t2.led = true) {wd : Bool} {R : Option Bool → Shared → Prop}
    (hR : ∀ h', Heap.SameBut a s.heap h' → SetS P w h' a S' n' → R (some true) { s with heap := h' }) :
    wpAny (model P w) A (do
        storeSet a fs t2
        if (!wd && t2.tooFull) = true then do
            gv (relayAll t2 fs (SetTable.grown fs.size)).2.2
            storeSet a (relayAll t2 fs (SetTable.grown fs.size)).1 (relayAll t2 fs (SetTable.grown fs.size)).2.1
            pure (some true)
          else pure (some true)) R E s := by
  have hsb : fs.size < scanBound := by unfold scanBound; omega
  refine wpAny_bind (wpAny_storeSet_of hob hdt ?_ (fits_of_scanBound hsb))
  have hob1 := store_at (es' := fs) (t' := t2) hob hdt
  have sbu := Heap.SameBut.update s.heap a (Obj.putSet fs t2)
  split
  · have q1 := relayAll_perm t2 fs (SetTable.grown fs.size)
    have q2 := relayAll_fits t2 fs (SetTable.grown fs.size)
    have q3 := relayAll_ris t2 fs (SetTable.grown fs.size)
    have q4 := relayAll_led t2 fs (SetTable.grown fs.size)
    generalize relayAll t2 fs (SetTable.grown fs.size) = Y at q1 q2 q3 q4 ⊢
    obtain ⟨ls, t3, gav⟩ := Y
    dsimp only at q1 q2 q3 q4 ⊢
    have hls : ls.size = fs.size := by rw [← Array.length_toList, q1.length_eq, Array.length_toList]
    refine wpAny_bind (hg _ _ _ ?_)
    refine wpAny_bind (wpAny_storeSet_of hob1 rfl ?_ (fits_of_scanBound (by rw [hls]; exact hsb)))
    have hob2 := store_at (es' := ls) (t' := t3) hob1 rfl
    exact wpAny_pure (hR _ (sbu.trans (Heap.SameBut.update _ a _)) ⟨_, ls, _, t3, hob2, hex, rfl, fun e he => g1 e (q1.mem_iff.mp he), (q1.map txOf).nodup_iff.mpr nd1, fun y => (q1.map txOf).mem_iff.trans (m1 y), by rw [hls]; exact hb1, hb2, q2, q3,
      hld.imp id fun z => q4.trans z⟩)
  · exact wpAny_pure (hR _ sbu ⟨_, fs, _, t2, hob1, hex, rfl, g1, nd1, m1, hb1, hb2, hf2, hrs, hld⟩)
theorem sets_add {y : Str} {tk : Tok} {Q : Bool → Shared → Prop} (R : SetS P w s.heap a S n) (hn : n + 1 < 1000) (hQ : ∀ b h', Heap.SameBut a s.heap h' → SetS P w h' a (S ++ [y]) (n + 1) → Q b { s with heap := h' }) :
    wpAny (model P w) A (setAddHashed a (.str y tk) ((PySem.strKind P w).hash y)) Q E s := by
  obtain ⟨o, es, ep, t, hob, hex, hdt, g, nd, hm, hb, hb2, hf, hrs, hld⟩ := R
  have hkey : (PySem.strKind P w).is y (.str y tk) = true := strKind_is P w y tk
  have hsc : (Value.str y tk).scannable = true := rfl
  have hel := txe_elems g
  have hsb : es.size < scanBound := by unfold scanBound; omega
  unfold setAddHashed setAddHashedIn
  refine wpAny_holding (wpAny_bind (wpAny_setState_of hob hdt hf ?_))
  dsimp only
  rw [byScan_of hsc hsb hel]
  simp only [↓reduceIte]
  unfold setAddByScan
  refine wpAny_bind (wpAny_bind (wpAny_rule ?_))
  refine wpAny_bind (wpAny_setScan_of hkey hob hdt hf hel ?_)
  cases hfi : List.findIdx? (fun e => (PySem.strKind P w).is y e.2) es.toList with
  | some j =>
    dsimp only
    obtain ⟨hj, pj, _⟩ := List.findIdx?_eq_some_iff_getElem.mp hfi
    have hy : y ∈ S := (hm y).mp (List.mem_map.mpr ⟨es.toList[j], List.getElem_mem hj, (txe_is (g _ (List.getElem_mem hj)) y).mp pj⟩)
    refine wpAny_pure (wpAny_pure (hQ _ s.heap (Heap.SameBut.refl a s.heap) ⟨o, es, ep, t, hob, hex, hdt, g, nd, fun z => ?_, by omega, hn, hf, hrs, hld⟩))
    rw [hm z, List.mem_append, List.mem_singleton]
    exact ⟨.inl, fun q => q.elim id fun e => e ▸ hy⟩
  | none =>
    dsimp only
    have hny : y ∉ es.toList.map txOf := fun z => by
      obtain ⟨e, he, q⟩ := List.mem_map.mp z
      have c := List.findIdx?_eq_none_iff.mp hfi e he
      rw [(txe_is (g e he) y).mpr q] at c
      cases c
    have hgw : ∀ (b : Bool) {s1 : Shared} {Q1 : Unit → Shared → Prop}, Q1 () s1 → wpAny (model P w) A (match b with | true => rule "set.scan.the-table-gave-way" | false => pure ()) Q1 E s1 := fun b s1 Q1 q => by
      cases b
      · exact wpAny_pure q
      · exact wpAny_rule q
    have q1 := layNew_perm t es ((PySem.strKind P w).hash y) (.str y tk)
    have q2 := layNew_fits t es ((PySem.strKind P w).hash y) (.str y tk)
    have q3 := layNew_ris t es ((PySem.strKind P w).hash y) (.str y tk) hrs
    have q4 := layNew_led t es ((PySem.strKind P w).hash y) (.str y tk)
    generalize layNew t es ((PySem.strKind P w).hash y) (.str y tk) = Y at q1 q2 q3 q4 ⊢
    obtain ⟨fs, t1, wd, gav⟩ := Y
    dsimp only at q1 q2 q3 q4 ⊢
    rw [Array.toList_push] at q1
    have pc : fs.toList.Perm (((PySem.strKind P w).hash y, Value.str y tk) :: es.toList) := q1.trans (List.perm_append_singleton _ _)
    have pk : (fs.toList.map txOf).Perm (y :: es.toList.map txOf) := pc.map txOf
    have g1 : ∀ e ∈ fs.toList, TxE P w e := fun e he => by
      rcases List.mem_cons.mp (pc.mem_iff.mp he) with z | z
      · rw [z]; exact ⟨y, tk, rfl, rfl⟩
      · exact g e z
    have nd1 : (fs.toList.map txOf).Nodup := pk.nodup_iff.mpr (List.nodup_cons.mpr ⟨hny, nd⟩)
    have m1 : ∀ z, z ∈ fs.toList.map txOf ↔ z ∈ S ++ [y] := fun z => by
      rw [pk.mem_iff, List.mem_cons, List.mem_append, List.mem_singleton, hm z]
      exact Or.comm
    have hsz : fs.size = es.size + 1 := by rw [← Array.length_toList, pc.length_eq, List.length_cons, Array.length_toList]
    have hld1 : w.params.followText "set-order" = true ∨ t1.led = true := hld.imp id fun z => q4.trans z
    refine wpAny_bind (hgw _ ?_)
    split
    · refine wpAny_bind ?_
      rw [hashByValue_scannable 8 hsc]
      refine wpAny_pure (sets_tail (S' := S ++ [y]) (n' := n + 1) ?_ hob hex hdt g1 nd1 m1 (by omega) hn ?_ ?_ ?_ ?_)
      · intro b s1 Q1 q
        exact hgw b q
      · first | (split <;> first | exact q2 | exact SetTable.fits_plain_off q2) | exact q2
      · first | (split <;> exact q3) | exact q3
      · first | (split <;> exact hld1) | exact hld1
      · intro h' sb r
        dsimp only
        exact wpAny_pure (hQ _ h' sb r)
    · refine wpAny_bind (wpAny_pure ?_)
      simp only [↓reduceIte]
      refine sets_tail (S' := S ++ [y]) (n' := n + 1) ?_ hob hex hdt g1 nd1 m1 (by omega) hn q2 q3 hld1 ?_
      · intro b s1 Q1 q
        exact hgw b q
      · intro h' sb r
        dsimp only
        exact wpAny_pure (hQ _ h' sb r)
theorem sets_new {h : Heap} (hob : h.get? a = some { cls := .type "set", dict := none, data := .set #[] 0 (.fresh 0 0 (!w.params.followText "set-order")) }) : SetS P w h a [] 0 :=
  ⟨_, #[], 0, _, hob, ⟨rfl, rfl, rfl⟩, rfl, (fun e he => by simp at he), (by simp), (fun y => by simp), (by decide), (by decide), (by rfl), List.Pairwise.nil, by
    show _ ∨ (!w.params.followText "set-order") = true
    cases w.params.followText "set-order"
    · exact .inr rfl
    · exact .inl rfl⟩
theorem sets_loop {I : Addr} {fp wr : List Addr} {G : Array GenState → Array GenState → Prop} {n : Nat} {Pv : Nat → Value → Prop} {Tm : Nat → Shared → Prop} {R : Result → Shared → Prop} (W : WalksS P w A.in1 I fp wr G n Pv Tm)
    (b : Addr) (hbf : b ∉ fp) (ys : List Str) (hn : n = ys.length) (hb : ys.length + 1 < 1000) (hval : ∀ i v, Pv i v → ∃ y t, ys[i]? = some y ∧ v = .str y t) :
    ∀ (m i : Nat) (s : Shared), n - i = m → i ≤ n → Tm i s → SetS P w s.heap b (ys.take i) i → (∀ s', Moved (b :: wr) G s s' → SetS P w s'.heap b ys n → R (.ok (.ret .none)) s') →
      codeAny (model P w) A (.builtin "set.update.loop" ⟨[.ref b, .ref I], []⟩) R s := by
  have hbw : b ∉ wr := fun h => hbf (W.sub _ h)
  have more : ∀ c ∈ wr, c ∈ b :: wr := fun c hc => List.mem_cons_of_mem _ hc
  intro m
  induction m with
  | zero =>
    intro i s hm hi ht hS hR
    obtain rfl : i = n := by omega
    refine codeAny_builtin F.entry_set_update_loop ?_
    rw [Around.under_plainId F.plain_set_update_loop _]
    refine wpAny_bind (W.done s _ _ ht fun s' mv => ?_)
    rw [List.take_of_length_le (Nat.le_of_eq hn.symm)] at hS
    exact wpAny_pure (hR s' (mv.mono more) (hS.at fun o e => mv.heap b o hbw e))
  | succ m ih =>
    intro i s hm hi ht hS hR
    have hlt : i < n := by omega
    refine codeAny_builtin F.entry_set_update_loop ?_
    rw [Around.under_plainId F.plain_set_update_loop _]
    refine wpAny_bind (W.item i s _ _ hlt ht fun v s' hp ht' mv => ?_)
    obtain ⟨y, t, hy, rfl⟩ := hval i v hp
    have hS' : SetS P w s'.heap b (ys.take i) i := hS.at fun o e => mv.heap b o hbw e
    show wpAny _ A.in1 (holding [Value.str y t] (setAdd b (.str y t)) >>= _) _ _ s'
    refine wpAny_bind (wpAny_holding ?_)
    unfold setAdd
    refine wpAny_holding (wpAny_bind ((PySem.strKind P w).pyHash (k := y) (strKind_is _ _ _ _) ?_))
    refine sets_add (s := { s' with toks := s'.toks + 1 }) hS' (by omega) fun q h' sb hS2 => ?_
    have hS3 : SetS P w h' b (ys.take (i + 1)) (i + 1) := by
      rw [List.take_add_one, hy]
      exact hS2
    refine wpAny_pure ⟨plainId_quiet F.plain_set_update_loop _, ih (i + 1) _ (by omega) hlt (W.frame _ s' _ _ ht' (Nat.le_succ _) fun c hc o e => ?_) hS3 fun s2 mv2 hS4 => ?_⟩
    · rw [sb.2 c (fun z : c = b => hbf (z ▸ hc))]; exact e
    · refine hR s2 (Moved.trans W.gtrans ((mv.mono more).then_heap (Nat.le_succ _) fun c o hc e => ?_) mv2) hS4
      rw [sb.2 c (fun z : c = b => hc (by rw [z]; exact List.mem_cons_self))]; exact e
end
end K76

set_option Elab.async false
set_option linter.all false
set_option maxRecDepth 100000
set_option maxHeartbeats 4000000
/-! k76: set(list of texts), sorted of it. -/
namespace K76
open PySem PySem.Spec PyProof.Rows L2
section
variable {P : Program} {w : World} {A : Around} {E : Value → Shared → Prop} {s : Shared}
/-- the new set's object -/
def ob0 (w : World) : Obj := { cls := .type "set", dict := none, data := .set #[] 0 (.fresh 0 0 (!w.params.followText "set-order")) }
theorem set_of_list {l : Addr} {its : Array Value} (ys : List Str) {Q : Value → Shared → Prop} (hh : A.handled = none) (hl : s.heap.IsList l its) (hit : StrsAre its.toList ys) (hb : ys.length + 1 < 1000)
    (h : ∀ (h' : Heap) (tk : Nat), SetS P w h' s.heap.objs.size ys ys.length → (∀ b o, s.heap.get? b = some o → h'.get? b = some o) → Q (.ref s.heap.objs.size) { s with heap := h', toks := tk }) :
    wpAny (model P w) A (call (.type "set") [.ref l]) Q E s := by
  have hsz : its.size = ys.length := by have q := StrsAre.len_eq hit; rw [Array.length_toList] at q; exact q
  obtain ⟨cc, tl, mro⟩ := F.called_set.mro
  have fmade := F.called_set.made; have fsub := F.called_set.sub
  refine wpAny_call (codeAny_of_tree (show wpAny _ _ (callAny (.type "set") _) _ _ _ from ?_))
  refine wpAny_pure ⟨Code.quiet_builtin _ (by decide +kernel), codeAny_builtin PySem.F.entry_type_call ?_⟩; rw [Around.under_plain (weight_type_call_type "set" [.ref l] []) rfl]
  have f1 := F.called_set.notType; have f2 := F.called_set.canCreate; have f3 := F.typeCall_set_1 (.ref l)
  repeat (any_goals (first | assumption | wp_step))

  refine codeAny_mono (code_set_led1 (.ref l) (E := E) (Q₁ := fun v t => v = .ref s.heap.objs.size ∧ t = { s with heap := s.heap.push (ob0 w) }) ⟨rfl, rfl⟩) fun r t hr => ?_
  match r, hr with
  | .error e, hr => exact hr
  | .ok (.ret v), hr =>
    obtain ⟨rfl, rfl⟩ := hr
    have at0 : (s.heap.push (ob0 w)).get? s.heap.objs.size = some (ob0 w) := Heap.get?_push_size _ rfl
    have ty0 : Shared.TypeIs { s with heap := s.heap.push (ob0 w) } (.ref s.heap.objs.size) "set" := ⟨_, at0, rfl⟩
    have f4 := F.called_set.init.lookup; have f5 := F.called_set.init.bind (.ref s.heap.objs.size)
    repeat (any_goals (first | assumption | wp_step))

    refine codeAny_mono (codeAny_call_builtin (R := wants (fun r t => r = .none ∧ ∃ h' tk, t = { s with heap := h', toks := tk } ∧ SetS P w h' s.heap.objs.size ys ys.length ∧ (∀ b o, s.heap.get? b = some o → h'.get? b = some o)) E)
      F.called_set.init.plain F.entry_set_init (check_set_init_1 ty0 ?_)) fun r2 t2 hr2 => ?_
    · obtain ⟨⟨ocls, odict, odata, oslots⟩, hol, hcl, nl, hdl⟩ := hl
      simp only at hcl hdl
      subst hcl hdl
      have hol' : (s.heap.push (ob0 w)).get? l = some { cls := .type "list", dict := odict, data := .seq its nl, slots := oslots } := Heap.get?_push_of_some _ hol
      have f6 := F.sub_list_set; have f7 := F.sub_list_frozenset
      have f8 : (Value.type "list" == Value.type "dict") = false := by decide
      have hl1 : (s.heap.push (ob0 w)).IsList l its := ⟨_, hol', rfl, nl, rfl⟩
      unfold Builtin.«set.__init__» noKeywords Builtin.Frozenset.updateFrom
      generalize hPI : pyIter = PI
      wp_walk
      subst hPI

      refine wpAny_pyIter_list hl1 (wpAny_bind (wpAny_runValue ?_))
      have lls : l < s.heap.objs.size := Heap.lt_size hol
      have hh3 : A.in1.in1.in1.handled = none := by simp [hh]
      have one : (s.heap.push (ob0 w)).objs.size = s.heap.objs.size + 1 := Heap.size_push ..
      have nI : l ≠ (s.heap.push (ob0 w)).objs.size := fun z => by
        rw [one] at z
        exact absurd lls (Nat.not_lt_of_le (Nat.le_of_lt (Nat.lt_of_lt_of_eq (Nat.lt_succ_self _) z.symm)))
      have out : s.heap.objs.size ∉ [(s.heap.push (ob0 w)).objs.size, l] := by
        rw [one]
        intro hm
        rcases List.mem_cons.mp hm with z | z
        · exact absurd z (Nat.ne_of_lt (Nat.lt_succ_self _))
        · exact absurd (List.mem_singleton.mp z) (Nat.ne_of_gt lls)
      refine sets_loop ((Walks.list hh3 _ l nI its).toS) s.heap.objs.size out ys hsz hb (fun i v hv => ?_) (its.size - 0) 0 _ (by omega) (Nat.zero_le _) ⟨⟨_, Heap.get?_push_size _ rfl, rfl, rfl⟩, (hl1.push _)⟩
        (sets_new (Heap.get?_push_of_some _ at0)) ?hR
      · have hi : i < ys.length := by rw [← hsz]; exact (Array.getElem?_eq_some_iff.mp hv).1
        obtain ⟨t, e⟩ := SS.strs_at hit i v (by rw [Array.getElem?_toList]; exact hv)
        refine ⟨ys[i], t, List.getElem?_eq_getElem hi, ?_⟩
        rw [e, List.getD_eq_getElem?_getD, List.getElem?_eq_getElem hi]
        rfl
      case hR =>
        intro s' hm hS'
        obtain ⟨h', g2, d', tk', os'⟩ := s'
        obtain rfl : g2 = s.gens := hm.gens
        obtain rfl : d' = s.drawn := hm.drawn
        obtain rfl : os' = s.os := hm.os
        refine wpAny_pure ?_
        show wpAny _ _ (ret Value.none) _ _ _
        rw [hsz] at hS'
        refine wpAny_pure ⟨rfl, h', tk', rfl, hS', fun b o e => ?_⟩
        have hb0 : b < s.heap.objs.size := Heap.lt_size e
        refine hm.heap b o (fun z => ?_) (Heap.get?_push_of_some _ (Heap.get?_push_of_some _ e))
        rcases List.mem_cons.mp z with z | z
        · exact absurd z (Nat.ne_of_lt hb0)
        · have z := List.mem_singleton.mp z
          rw [one] at z
          exact absurd z (Nat.ne_of_lt (Nat.lt_succ_of_lt hb0))
    · match r2, hr2 with
      | .error e, hr2 => exact hr2
      | .ok (.ret r), hr2 =>
        obtain ⟨rfl, h', tk, rfl, hS', hk'⟩ := hr2
        repeat (any_goals (first | assumption | wp_step))
        exact h _ _ hS' hk'
      | .ok .next, hr2 => exact hr2.elim
      | .ok .brk, hr2 => exact hr2.elim
      | .ok .cont, hr2 => exact hr2.elim
  | .ok .next, hr => exact hr.elim
  | .ok .brk, hr => exact hr.elim
  | .ok .cont, hr => exact hr.elim
end
end K76

set_option Elab.async false
set_option linter.all false
set_option maxRecDepth 100000
set_option maxHeartbeats 2000000
/-! k76: set(list of texts) and sorted(set of texts) as rules; texts of ascending codes. -/
namespace K76
open PySem PySem.Spec PyProof.Rows L2
def SetSo (P : Program) (w : World) (a : Addr) (ys : List Str) : HO := .ext fun h => ys.length < 64 ∧ SetS P w h a ys ys.length
theorem setSo_new {P : Program} {w : World} {H : Hp} {h : Heap} {a : Addr} {ys : List Str} (hl : ys.length < 64) (R : SetS P w h a ys ys.length) : ObjOk P w H h a (SetSo P w a ys) := by
  have ⟨o, _, _, _, ho, _⟩ := R
  exact ⟨⟨hl, R⟩, ⟨o, ho⟩, fun h1 h2 p k => ⟨p.1, SetS.at p.2 k⟩⟩
section
variable {X : Cx}
theorem cr_sset (hc : X.calm = true) : CallR X (.type "set") (fun xs H Q => ∃ l, ∃ ys : List Str, xs = [.ref l] ∧ SqL X.K H l (ys.map V.str) ∧ ys.length < 64 ∧ ∀ d, H d = none → Q (.ref d) (upd H d (SetSo X.prog X.w d ys))) := by
  intro pins s σ H xs us Q I r h
  obtain ⟨l, ys, rfl, hl, hz, q⟩ := h
  rw [Vals.ref1 r]
  obtain ⟨its, rv, pl, _⟩ := I.list hl
  refine set_of_list ys (I.ok.hd hc) pl.isList (by simpa using rv.strs) (by omega) fun h' tk R k => ?_
  exact ⟨.ref s.heap.objs.size, _, I.laid (t' := tk) (o := SetSo X.prog X.w s.heap.objs.size ys) k (Nat.le_refl _) (setSo_new hz R), rfl, q _ (I.hok.fresh (Nat.le_refl _))⟩
theorem cr_ssorted (hc : X.calm = true) : CallR X (.builtin "sorted") (fun xs H Q => ∃ d, ∃ ys : List Str, xs = [.ref d] ∧ H d = some (SetSo X.prog X.w d ys) ∧
    ∀ (zs : List Str) p, H p = none → sortedS zs = true → zs.Nodup → (∀ y, y ∈ zs ↔ y ∈ ys) → Q (.ref p) (upd H p (.lst (zs.map V.str)))) := by
  intro pins s σ H xs us Q I r h
  obtain ⟨d, ys, rfl, hd, q⟩ := h
  obtain ⟨h64, o, es, ep, t, ho, hex, hdt, g, nd, hm, hb, _, hf, hr, hl⟩ := (I.hok d _ hd).1
  rw [Vals.ref1 r]
  refine Calls.call_function_entry kind_sorted plain_sorted entry_sorted (args_sorted1 _) ?_
  unfold Builtin.«sorted»
  refine wpAny_bind (m := checkCount "sorted" 1 1 _) (wpAny_pure (wpAny_bind (collect_set (A := X.A.in1) (I.ok.hd hc) ⟨o, ho, hex.1, hdt⟩ hf (by unfold scanBound; omega) hr hl fun s1 vs k1 hz g1 o1 pm => ?_)))
  have hvl : vs.length = es.size := by rw [pm.length_eq, List.length_map, Array.length_toList]
  have hS : StrsAre vs (vs.map strOf) := strsAre_map vs fun v hv => by
    obtain ⟨e, he, q⟩ := List.mem_map.mp (pm.mem_iff.mp hv)
    obtain ⟨y, tk, e1, _⟩ := g e he
    exact ⟨y, tk, by rw [← q]; exact e1⟩
  have pk : (vs.map strOf).Perm (es.toList.map txOf) := by
    have z := pm.map strOf
    rw [List.map_map] at z
    exact z
  refine wpAny_bind (wpAny_newList ?_ (by rw [hvl, sizeLine_eq]; omega))
  have at1 : (s1.heap.push (seqObj "list" vs.toArray 0)).get? s1.heap.objs.size = some (seqObj "list" vs.toArray 0) := Heap.get?_push_size _ rfl
  refine wpAny_bind (wpAny_holding (wpAny_call_entry slot_list_sort ⟨_, at1, rfl⟩ entry_list_sort
    (list_sort_treeK strKind_oneLt (s := { s1 with heap := s1.heap.push (seqObj "list" vs.toArray 0) }) at1 hS.keysOf (fun v1 v2 rest e => keyKind_strs (by rw [← e]; exact hS)) (by rw [hvl]; omega) fun st' hp hs => ⟨_, rfl, ?_⟩) (args_list_sort _)))
  obtain ⟨zs, b1, b2, b3⟩ := sorted_out_str hS hp hs
  obtain ⟨c, hcc⟩ := sortedHeap_at (vs := vs) (out := (arrOf st').map (·.2)) at1
  have pz : zs.Perm (es.toList.map txOf) := b2.trans pk
  have hlen : (zs.map V.str).length ≤ sizeLine := by
    rw [List.length_map, pz.length_eq, List.length_map, Array.length_toList, sizeLine_eq]
    omega
  have hn : H s1.heap.objs.size = none := I.hok.fresh hz
  have kk : ∀ b u, s.heap.get? b = some u → (sortedHeap (s1.heap.push (seqObj "list" vs.toArray 0)) s1.heap.objs.size vs ((arrOf st').map (·.2))).get? b = some u := fun b u e => by
    have e1 := k1 b u e
    have lt := Heap.lt_size e1
    rw [sortedHeap_old (Nat.ne_of_lt lt) (by rw [size_push']; exact Nat.lt_succ_of_lt lt)]
    exact Heap.get?_push_of_some _ e1
  refine wpAny_pure ⟨_, rfl, .ref s1.heap.objs.size, upd H s1.heap.objs.size (.lst (zs.map V.str)), ?_, rfl, q zs _ hn b3 (pz.nodup_iff.mpr nd) fun y => (pz.mem_iff).trans (hm y)⟩
  have J : Inv X pins σ (upd H s1.heap.objs.size (.lst (zs.map V.str))) { s with heap := sortedHeap (s1.heap.push (seqObj "list" vs.toArray 0)) s1.heap.objs.size vs ((arrOf st').map (·.2)), gens := s1.gens, drawn := s1.drawn, toks := s1.toks } :=
    I.call (ch := []) (Un.laid kk hz hn) (I.hok.laid kk hz ⟨hlen, _, c, vals_of_strs b1, by rw [Array.toArray_toList]; exact hcc⟩) (by rw [g1]; exact I.bare) (fun _ z => nomatch z)
  have e : ({ s1 with heap := sortedHeap (s1.heap.push (seqObj "list" vs.toArray 0)) s1.heap.objs.size vs ((arrOf st').map (·.2)) } : Shared) = { s with heap := sortedHeap (s1.heap.push (seqObj "list" vs.toArray 0)) s1.heap.objs.size vs ((arrOf st').map (·.2)), gens := s1.gens, drawn := s1.drawn, toks := s1.toks } := by
    cases s1
    cases s
    cases o1
    rfl
  show Inv X pins σ _ { s1 with heap := sortedHeap (s1.heap.push (seqObj "list" vs.toArray 0)) s1.heap.objs.size vs ((arrOf st').map (·.2)) }
  rw [e]
  exact J
end
/-! ### texts of codes -/
def tx (cs : List Nat) : Str := ⟨cs.toArray⟩
def t1 (c : Nat) : Str := ⟨#[c]⟩
theorem tx_inj {a b : List Nat} (e : tx a = tx b) : a = b := SX.S_inj e
theorem t1_inj {c d : Nat} (e : t1 c = t1 d) : c = d := by
  have := tx_inj (a := [c]) (b := [d]) e
  simpa using this
theorem tx_len (cs : List Nat) : (tx cs).length = cs.length := SX.S_len cs
theorem tx_cat (a b : List Nat) : tx a ++ tx b = tx (a ++ b) := SX.S_cat a b
theorem tx_cps (cs : List Nat) : (tx cs).cps.size = cs.length := by show cs.toArray.size = _; simp
theorem tx_at (cs : List Nat) (i : Nat) : (tx cs).cps[i]? = cs[i]? := by show cs.toArray[i]? = _; simp
theorem lt1 (c d : Nat) : ltCps (t1 c).cps.toList (t1 d).cps.toList = decide (c < d) := by
  rw [ltCps_eq]
  show decide ([c] < [d]) = _
  refine decide_eq_decide.mpr ?_
  rw [List.cons_lt_cons_iff]
  simp
theorem joinL_one : ∀ cs : List Nat, TL.joinL [] (cs.map fun c => [c]) = cs
  | [] => rfl
  | [c] => rfl
  | c :: d :: r => by
    have ih := joinL_one (d :: r)
    show [c] ++ ([] ++ TL.joinL [] ((d :: r).map fun c => [c])) = _
    rw [ih]
    rfl
theorem join1 (cs : List Nat) : Txt.join (tx []) (cs.map t1) = tx cs := by
  have e := SX.join_S [] (cs.map fun c => [c])
  rw [joinL_one, List.map_map] at e
  exact e
theorem code_list : ∀ ys : List Str, (∀ y ∈ ys, ∃ c, y = t1 c) → ∃ cs : List Nat, ys = cs.map t1
  | [], _ => ⟨[], rfl⟩
  | y :: r, h => by
    obtain ⟨c, rfl⟩ := h y List.mem_cons_self
    obtain ⟨cs, rfl⟩ := code_list r fun z hz => h z (List.mem_cons_of_mem _ hz)
    exact ⟨c :: cs, rfl⟩
theorem asc_rise : ∀ (c : Nat) (cs : List Nat), risingS (t1 c) (cs.map t1) = true → (c :: cs).Pairwise (· ≤ ·)
  | c, [], _ => by simp
  | c, d :: r, h => by
    have h : (!ltCps (t1 d).cps.toList (t1 c).cps.toList && risingS (t1 d) (r.map t1)) = true := h
    rw [lt1, Bool.and_eq_true, Bool.not_eq_true', decide_eq_false_iff_not] at h
    have ih := asc_rise d r h.2
    refine List.pairwise_cons.mpr ⟨fun x hx => ?_, ih⟩
    rcases List.mem_cons.mp hx with e | hx
    · omega
    · have := (List.pairwise_cons.mp ih).1 x hx
      omega
/-- sorted texts of one sign each, none twice: ascending codes -/
theorem asc_codes {ys : List Str} (h1 : ∀ y ∈ ys, ∃ c, y = t1 c) (hs : sortedS ys = true) (nd : ys.Nodup) : ∃ cs : List Nat, ys = cs.map t1 ∧ cs.Pairwise (· < ·) ∧ ∀ c, c ∈ cs ↔ t1 c ∈ ys := by
  obtain ⟨cs, rfl⟩ := code_list ys h1
  refine ⟨cs, rfl, ?_, fun c => ⟨fun h => List.mem_map.mpr ⟨c, h, rfl⟩, fun h => ?_⟩⟩
  · have le : cs.Pairwise (· ≤ ·) := by
      cases cs with
      | nil => exact List.Pairwise.nil
      | cons c r => exact asc_rise c r hs
    have ne : cs.Pairwise (· ≠ ·) := List.Pairwise.of_map t1 (fun _ _ h e => h (congrArg t1 e)) nd
    refine List.Pairwise.imp₂ (fun a b h1 h2 => ?_) le ne
    omega
  · obtain ⟨d, hd, e⟩ := List.mem_map.mp h
    rw [← t1_inj e]
    exact hd
end K76

set_option Elab.async false
set_option linter.all false
set_option maxRecDepth 100000
set_option maxHeartbeats 2000000
/-! k76: a dict comprehension with two fors and no tests. -/
namespace K76
open PySem PySem.Spec PyProof.Rows L2
/-- the comprehension -/
abbrev DC (kx vx a i b j : Expr) (sc : Scope) (pos : Pos) : Expr := .DictComp kx vx [⟨a, i, [], 0⟩, ⟨b, j, [], 0⟩] sc pos
theorem dturn_out (kx vx a i b j : Expr) (sc : Scope) (pos : Pos) (it acc : Value) (env : Env) : compTurn (DC kx vx a i b j sc pos) 0 it acc env = (do
      standAt i.pos
      match ← pyNext it with
      | none => pure (.done .next)
      | some v =>
        letOwnedTupleGo a it v
        assign a env v
        let x ← eval j env
        standAt j.pos
        let x ← foldedSetIterable j env x
        let _ ← runOwn (.compStart (DC kx vx a i b j sc pos) 1 (← holding [x] (pyIter x)) acc env) env
        again (.compLoop (DC kx vx a i b j sc pos) 0 it acc env)) := by rfl
theorem dturn_in (kx vx a i b j : Expr) (sc : Scope) (pos : Pos) (it : Value) (D : Addr) (env : Env) : compTurn (DC kx vx a i b j sc pos) 1 it (.ref D) env = (do
      standAt j.pos
      match ← pyNext it with
      | none => pure (.done .next)
      | some v =>
        letOwnedTupleGo b it v
        assign b env v
        (do
          let k ← eval kx env
          let x ← holding [k] (eval vx env)
          standAt { kx.pos with endLine := vx.pos.endLine, endCol := vx.pos.endCol }
          holding [k, x] (dictSet D k x))
        again (.compLoop (DC kx vx a i b j sc pos) 1 it (.ref D) env)) := by rfl
section
variable {prog : Program} {w : World} {A : Around} {R : Result → Shared → Prop} {s : Shared} {kx vx a i b j : Expr} {sc : Scope} {pos : Pos} {it acc : Value} {env : Env}
abbrev NB (prog : Program) (w : World) (A : Around) (env : Env) (R : Result → Shared → Prop) : Value → Shared → Prop := notedBy (model prog w) A env fun e s' => R (.error e) s'
theorem dloop_out (hs : ∀ x, foldedSetIterable j env x = pure x) (I : Nat → Shared → Prop) (turn : ∀ n s, I n s → wpAny (model prog w) A (pyNext it) (fun r s1 => match r with
      | none => R (.ok .next) s1
      | some v => wpAny (model prog w) A (letOwnedTupleGo a it v) (fun _ s2 => wpAny (model prog w) A (assign a env v) (fun _ s3 => wpAny (model prog w) A (eval j env) (fun x s4 => wpAny (model prog w) A (pyIter x) (fun t s5 =>
              codeAny (model prog w) A (.compStart (DC kx vx a i b j sc pos) 1 t acc env) (fun r s' => match r with
                | .ok _ => ∃ m, m < n ∧ I m s'
                | .error _ => False) s5) (NB prog w A env R) s4) (NB prog w A env R) s3) (NB prog w A env R) s2) (NB prog w A env R) s1) (NB prog w A env R) s) (n : Nat) (h : I n s) :
    codeAny (model prog w) A (.compLoop (DC kx vx a i b j sc pos) 0 it acc env) R s := by
  refine codeAny_loop rfl I (fun n s hI => ?_) n h
  show wpAny _ A ((compTurn (DC kx vx a i b j sc pos) 0 it acc env).onRaise (fun x => do noteFrame x env; theTreesLotGoes x)) _ _ s
  refine wpAny_noted ?_
  rw [dturn_out]
  refine wpAny_bind (wpAny_standAt (wpAny_bind (thn (turn n s hI) fun r s1 h1 => ?_)))
  cases r with
  | none => exact wpAny_pure h1
  | some v =>
    refine wpAny_bind (thn h1 fun _ s2 h2 => wpAny_bind (thn h2 fun _ s3 h3 => wpAny_bind (thn h3 fun x s4 h4 => ?_)))
    refine wpAny_bind (wpAny_standAt (wpAny_bind (wpAny_of_eq (hs x) (wpAny_bind (wpAny_holding (thn h4 fun t s5 h5 => wpAny_bind (wpAny_runOwn ?_)))))))
    rw [Around.mark_none]
    refine codeAny_mono h5 fun r s' hr => ?_
    cases r with
    | ok f => first | exact wpAny_pure ⟨rfl, hr⟩ | exact wpAny_bind (wpAny_pure (wpAny_pure ⟨rfl, hr⟩))
    | error e => exact hr.elim
theorem dloop_in {D : Addr} (I : Nat → Shared → Prop) (turn : ∀ n s, I n s → wpAny (model prog w) A (pyNext it) (fun r s1 => match r with
      | none => R (.ok .next) s1
      | some v => wpAny (model prog w) A (letOwnedTupleGo b it v) (fun _ s2 => wpAny (model prog w) A (assign b env v) (fun _ s3 => wpAny (model prog w) A (eval kx env) (fun k s4 => wpAny (model prog w) A (eval vx env) (fun x s5 =>
              wpAny (model prog w) A (dictSet D k x) (fun _ s6 => ∃ m, m < n ∧ I m s6) (NB prog w A env R) s5) (NB prog w A env R) s4) (NB prog w A env R) s3) (NB prog w A env R) s2) (NB prog w A env R) s1) (NB prog w A env R) s) (n : Nat) (h : I n s) :
    codeAny (model prog w) A (.compLoop (DC kx vx a i b j sc pos) 1 it (.ref D) env) R s := by
  refine codeAny_loop rfl I (fun n s hI => ?_) n h
  show wpAny _ A ((compTurn (DC kx vx a i b j sc pos) 1 it (.ref D) env).onRaise (fun x => do noteFrame x env; theTreesLotGoes x)) _ _ s
  refine wpAny_noted ?_
  rw [dturn_in]
  refine wpAny_bind (wpAny_standAt (wpAny_bind (thn (turn n s hI) fun r s1 h1 => ?_)))
  cases r with
  | none => exact wpAny_pure h1
  | some v =>
    refine wpAny_bind (thn h1 fun _ s2 h2 => wpAny_bind (thn h2 fun _ s3 h3 => wpAny_bind (wpAny_bind (thn h3 fun k s4 h4 => wpAny_bind (wpAny_holding (thn h4 fun x s5 h5 => ?_))))))
    exact wpAny_bind (wpAny_standAt (wpAny_holding (thn h5 fun _ s6 h6 => wpAny_pure ⟨rfl, h6⟩)))
theorem dstart1 (h0 : codeAny (model prog w) A (.compLoop (DC kx vx a i b j sc pos) 1 it acc env) R s)
    (h : wpAny (model prog w) A (pyIter it) (fun t s' => codeAny (model prog w) A (.compLoop (DC kx vx a i b j sc pos) 1 t acc env) R s') (NB prog w A env R) s) : codeAny (model prog w) A (.compStart (DC kx vx a i b j sc pos) 1 it acc env) R s := by
  refine codeAny_of_tree ?_
  show wpAny _ _ ((compStart (DC kx vx a i b j sc pos) 1 it acc env).onRaise (fun x => do noteFrame x env; standAt theWindowsPlace)) _ _ s
  refine wpAny_notedAt ?_
  unfold compStart
  refine wpAny_bind (wpAny_askSetting (wpAny_ite ?_))
  split
  · first | exact wpAny_bind (wpAny_pure (wpAny_pure ⟨rfl, h0⟩)) | exact wpAny_pure ⟨rfl, h0⟩
  · first
      | exact wpAny_bind (wpAny_rule (wpAny_bind (wpAny_standAt (wpAny_bind (thn h fun t s' q => wpAny_pure ⟨rfl, q⟩)))))
      | (refine wpAny_bind (wpAny_rule ?_); show wpAny _ _ (standAt j.pos >>= _) _ _ s; exact wpAny_bind (wpAny_standAt (wpAny_bind (thn h fun t s' q => wpAny_pure ⟨rfl, q⟩))))
end
section
variable {X : Cx}
def tDc2 (wi : TI) (g : TG) (wj : TI) (gj : TG) (tk tv : TE) (vs vj : List Nat) : TE := fun σ H Q => wi σ H fun J H1 => ∀ D, H1 D = none → ∃ W : Nat → Nat → Hp → Prop, (∃ m, W 0 m (upd H1 D (.dK []))) ∧ ∀ i m H, W i m H →
  (J.stop i H ∧ Q (.ref D) H) ∨ (J.go i H ∧ ∃ Nx : Hp → Prop, (∀ H', Nx H' → ∃ m', m' < m ∧ W (i + 1) m' H') ∧ ∀ x H', J.yld i H x H' → g x (wipe σ vs) H' fun σ2 H2 => wipe σ2 vs = wipe σ vs ∧
    wj σ2 H2 fun J1 H4 => ∃ W1 : Nat → Nat → Hp → Prop, (∃ m, W1 0 m H4) ∧ ∀ j k H, W1 j k H →
      (J1.stop j H ∧ Nx H) ∨ (J1.go j H ∧ ∃ Nx1 : Hp → Prop, (∀ H', Nx1 H' → ∃ k', k' < k ∧ W1 (j + 1) k' H') ∧ ∀ x H', J1.yld j H x H' → gj x (wipe σ2 vj) H' fun σ3 H5 => wipe σ3 vj = wipe σ2 vj ∧
        tk σ3 H5 fun y H6 => tv σ3 H6 fun z H7 => ∃ kvs kk, y = kV kk ∧ H7 D = some (.dK kvs) ∧ kvs.length < sizeLine ∧ Nx1 (upd H7 D (.dK (putK kvs kk z)))))
/-- the block's rules, whatever the block's place -/
abbrev InBlk (X : Cx) (sc : Scope) (f : Cx → Prop) : Prop := ∀ (s : Shared) (H : Hp) (C : Addr) (cl : List (Str × Addr)) (fp : List Addr), f (X.blk s H sc (compEnvC sc cl C X.env) fp)
theorem pe_dc2 {kx vx a i b j : Expr} {sc : Scope} {pos : Pos} {own : List (Str × Nat)} {vj : List Nat} {wi wj : TI} {g gj : TG} {tk tv : TE} (hc : X.calm = true) (hN : X.N.Nodup) (hi : PI X a i wi) (ok : BlkOk X.N X.env.scope sc own) (hv : ∀ i ∈ vj, i ∈ own.map (·.2))
    (hg : InBlk X sc fun Y => PG Y a g) (hj : InBlk X sc fun Y => PI Y b j wj) (hgj : InBlk X sc fun Y => PG Y b gj) (hk : InBlk X sc fun Y => PE Y kx tk) (hx : InBlk X sc fun Y => PE Y vx tv)
    (hs : ∀ x, foldedSetIterable i X.env x = pure x := by intro _; rfl) (hsj : ∀ env x, foldedSetIterable j env x = pure x := by intro _ _; rfl) : PE X (DC kx vx a i b j sc pos) (tDc2 wi g wj gj tk tv (own.map (·.2)) vj) := by
  refine ⟨fun pins s σ H Q I h => ?_⟩
  rw [arm_eval_DictComp]
  have hfree : ∀ y ∈ sc.names, y.2 = .free → ∃ c, X.env.cells.lookup y.1 = some c := fun y hy e => (ok.free y hy e).elim (fun k => I.ok.has _ (.inl k)) (fun k => I.ok.has _ (.inr k))
  refine wpAny_comprehension_free rfl hs (closure_ok hfree) ok.kind (fun y hy e => by rw [ok.uniq y hy, e]) (thn (hi.run pins s σ H _ I h) fun xv s1 hx1 => thn hx1 fun itv s2 h2 => ?_)
  obtain ⟨it, fp, tn, J, H2, e, I2, T, st2, f2, q⟩ := h2
  subst e
  refine wpAny_newObj_type (newEnv_comp ?_)
  generalize hD : s2.heap.objs.size = D
  have hDn : H2 D = none := I2.hok.fresh (Nat.le_of_eq hD)
  obtain ⟨W, ⟨m0, w0⟩, turn⟩ := q D hDn
  generalize hs3 : ({ s2 with heap := s2.heap.push { cls := .type "dict", data := .dict #[] } } : Shared) = s3
  have I3 : Inv X pins σ (upd H2 D (.dK [])) s3 := by
    subst hs3
    refine I2.laid (t' := s2.toks) (fun b o e => Heap.get?_push_of_some _ e) (Nat.le_of_eq hD) ?_
    subst hD
    exact dk_empty s2.heap I2.big
  have h3 : s3.heap = s2.heap.push { cls := .type "dict", data := .dict #[] } := by rw [← hs3]
  have f3 : ∀ b ∈ fp, FpOk X pins (upd H2 D (.dK [])) b ∧ b < s3.heap.objs.size := fun b hb => by
    obtain ⟨o, e, _⟩ := T.obj _ _ st2 b hb
    have hlt := Heap.lt_size e
    refine ⟨⟨?_, (f2 b hb).2⟩, by rw [h3, Heap.size_push]; exact Nat.lt_succ_of_lt hlt⟩
    rw [upd_ne (by rw [← hD]; exact Nat.ne_of_lt hlt)]
    exact (f2 b hb).1
  have st3 : tn 0 s3.heap := T.keep _ _ _ st2 fun b _ o e => by rw [h3]; exact Heap.get?_push_of_some _ e
  have I4 := block_start I3 ok hN f3
  have pg := hg s3 (upd H2 D (.dK [])) s3.heap.objs.size (cellsFrom (s3.heap.objs.size + 1) sc.names (cloFrom X.env.cells sc.names [])) fp
  have pj := hj s3 (upd H2 D (.dK [])) s3.heap.objs.size (cellsFrom (s3.heap.objs.size + 1) sc.names (cloFrom X.env.cells sc.names [])) fp
  have pgj := hgj s3 (upd H2 D (.dK [])) s3.heap.objs.size (cellsFrom (s3.heap.objs.size + 1) sc.names (cloFrom X.env.cells sc.names [])) fp
  have pk := hk s3 (upd H2 D (.dK [])) s3.heap.objs.size (cellsFrom (s3.heap.objs.size + 1) sc.names (cloFrom X.env.cells sc.names [])) fp
  have px := hx s3 (upd H2 D (.dK [])) s3.heap.objs.size (cellsFrom (s3.heap.objs.size + 1) sc.names (cloFrom X.env.cells sc.names [])) fp
  generalize hRz : compPost (model X.prog X.w) X.A X.xe none (fun r s' => EP X pins σ Q r s') (.ref D) s3.heap.objs.size = Rz
  show codeAny _ _ (.compStart (DC kx vx a i b j sc pos) 0 (.ref it) (.ref D) (compEnvC sc (cellsFrom (s3.heap.objs.size + 1) sc.names (cloFrom X.env.cells sc.names [])) s3.heap.objs.size X.env)) (compPost (model X.prog X.w) X.A X.xe none (fun r s' => EP X pins σ Q r s') (.ref D) s3.heap.objs.size) { s3 with heap := pushCells (s3.heap.push { cls := .type "dict", data := .dict #[] }) sc.names }
  rw [hRz]
  have nfp : ∀ b ∈ fp, (upd H2 D (.dK [])) b = none := fun b hb => (f3 b hb).1.1
  generalize hce : compEnvC sc (cellsFrom (s3.heap.objs.size + 1) sc.names (cloFrom X.env.cells sc.names [])) s3.heap.objs.size X.env = ce at I4 pg pj pgj pk px ⊢
  have cL : ce.locals = s3.heap.objs.size := by subst hce; rfl
  generalize hH3 : upd H2 D (.dK []) = H3 at I3 I4 pg pj pgj pk px w0 nfp f3
  generalize hs4 : ({ s3 with heap := pushCells (s3.heap.push { cls := .type "dict", data := .dict #[] }) sc.names } : Shared) = s4 at I4 ⊢
  have st4 : tn 0 s4.heap := T.keep _ _ _ st3 fun b _ o e => by rw [← hs4]; exact pushCells_keeps _ _ _ _ (Heap.get?_push_of_some _ e)
  generalize hXb : X.blk s3 H3 sc ce fp = Xb at I4 pg pj pgj pk px
  have bp : Xb.prog = X.prog := by subst hXb; rfl
  have bw : Xb.w = X.w := by subst hXb; rfl
  have bK : Xb.K = X.K := by subst hXb; rfl
  have bc : Xb.calm = true := by subst hXb; exact hc
  have bA : Xb.A = X.A := by subst hXb; rfl
  have stat : ∀ {σ' : L2.St} {H' : Hp} {s' : Shared}, Inv Xb [] σ' H' s' → (∀ b ∈ fp, H' b = none) → ∀ b ∈ fp, FpOk Xb [] H' b := fun {σ' H' s'} I' hn b hb => by
    subst hXb
    exact ⟨hn b hb, (I'.ok.exf b hb).1, I'.ok.exfs b hb, .inl hb, fun x c e => (I'.ok.exf b hb).2 x c e, fun p hp => absurd (show p ∈ ([] : List (Addr × Obj)) ++ [] from hp) (by simp)⟩
  have home : ∀ {σ' : L2.St} {H' : Hp} {s' : Shared}, Inv Xb [] σ' H' s' → Q (.ref D) H' → Rz (.ok .next) s' := fun {σ' H' s'} I6 qq => by
    subst hXb
    have I7 : Inv X pins σ H' s' := I3.call' (ch := fp) I6.os I6.base I6.hok I6.bare fun b hb => ⟨(f3 b hb).1.2.2.2.1, (f3 b hb).1.2.1, (f3 b hb).1.2.2.2.2.1, (f3 b hb).1.2.2.2.2.2⟩
    have nC : H' s3.heap.objs.size = none := by
      have z : H' ce.locals = none := I6.free
      rw [cL] at z
      exact z
    obtain ⟨m, hn, _⟩ := I6.loc
    have hn : s'.heap.Ns ce.locals m := hn
    rw [cL] at hn
    obtain ⟨f0, f1, f2, f3, f4, f5⟩ := I3.fpOk (Nat.le_refl _) nC
    rw [← hRz]
    exact ⟨m, hn, fun h'' sb => ⟨.ref D, H', I7.turned (t' := s'.toks) (fun b o hb e => (sb.2 b hb).trans e) f0 f1 f3 f4 f5, rfl, qq⟩⟩
  have loop : codeAny (model X.prog X.w) X.A (.compLoop (DC kx vx a i b j sc pos) 0 (.ref it) (.ref D) ce) Rz s4 := by
    refine dloop_out (hsj ce) (fun n s' => ∃ i H', Inv Xb [] (wipe σ (own.map (·.2))) H' s' ∧ tn i s'.heap ∧ (∀ b ∈ fp, H' b = none) ∧ W i n H') ?_ m0 ⟨0, H3, I4, st4, nfp, w0⟩
    rintro n s5 ⟨i5, H5, I5, st5, n5, w5⟩
    rcases turn i5 n H5 w5 with ⟨stop, qq⟩ | ⟨go, Nx, hNx, step⟩
    · have td := T.done Xb bp bw bK bc i5 [] s5 _ H5 (fun _ _ => False) I5 (stat I5 n5) st5 stop
      rw [bA] at td
      refine thnF td fun r s6 ⟨hr, I6⟩ => ?_
      subst hr
      exact home I6 qq
    · have ti := T.item Xb bp bw bK bc i5 [] s5 _ H5 (fun _ _ => False) I5 (stat I5 n5) st5 go
      rw [bA] at ti
      refine thnF ti fun r s6 ⟨u, hr, h6⟩ => ?_
      subst hr
      refine thnF h6 fun _ s7 ⟨x, H7, I7, r7, y7, st7, n7⟩ => ?_
      have I7' := I7.pinned (stat I7 n7) (T.obj _ _ st7)
      have pgr := pg.run _ s7 _ H7 x u _ I7' r7 (step x H7 y7)
      subst hXb
      refine thnF pgr fun _ s8 ⟨σ8, H8, I8, hw8, q8⟩ => ?_
      have fin : ∀ {σ9 : L2.St} {s' : Shared} {H' : Hp}, Inv (X.blk s3 H3 sc ce fp) ([] ++ pinsAt fp s7.heap) σ9 H' s' → (wipe σ (own.map (·.2))).length = σ9.length → (∀ (j : Nat) v, (wipe σ (own.map (·.2)))[j]? = some (some v) → σ9[j]? = some (some v)) → Nx H' →
          ∃ m, m < n ∧ ∃ i H', Inv (X.blk s3 H3 sc ce fp) [] (wipe σ (own.map (·.2))) H' s' ∧ tn i s'.heap ∧ (∀ b ∈ fp, H' b = none) ∧ W i m H' := fun {σ9 s' H'} I' hl hk nx => by
        obtain ⟨m', hm, w'⟩ := hNx H' nx
        have stay : ∀ b ∈ fp, ∀ o, s7.heap.get? b = some o → s'.heap.get? b = some o ∧ H' b = none := fun b hb o e =>
          let z := I'.pin (b, o) (List.mem_append_right _ (List.mem_append_right _ (mem_pinsAt hb e)))
          ⟨z.1, z.2.1⟩
        refine ⟨m', hm, i5 + 1, H', (I'.unpinned (pins := [])).weak hl hk, T.keep _ _ _ st7 fun b hb o e => (stay b hb o e).1, fun b hb => ?_, w'⟩
        obtain ⟨o, e, _⟩ := T.obj _ _ st7 b hb
        exact (stay b hb o e).2
      have hl8 : (wipe σ (own.map (·.2))).length = σ8.length := by rw [← hw8, wipe_length]
      have hk9 : ∀ (j : Nat) v, (wipe σ (own.map (·.2)))[j]? = some (some v) → (wipe σ8 vj)[j]? = some (some v) := fun j v e => by
        rw [← hw8] at e
        obtain ⟨e1, e2⟩ := wipe_some e
        rw [wipe_out fun z => e2 (hv j z)]
        exact e1
      refine thnF (pj.run _ s8 σ8 H8 _ I8 q8) fun xv s10 hx10 => thnF hx10 fun itv s11 h11 => ?_
      obtain ⟨it1, fp1, tn1, J1, H11, e1, I11, T1, st11, f11, W1, ⟨m1, w1⟩, turn1⟩ := h11
      subst e1
      have stat1 : ∀ {H' : Hp}, (∀ b ∈ fp1, H' b = none) → ∀ b ∈ fp1, FpOk (X.blk s3 H3 sc ce fp) ([] ++ pinsAt fp s7.heap) H' b := fun hn b hb => ⟨hn b hb, (f11 b hb).2⟩
      have loop1 : codeAny (model X.prog X.w) X.A (.compLoop (DC kx vx a i b j sc pos) 1 (.ref it1) (.ref D) ce) (fun r s' => match r with
              | .ok _ => ∃ m, m < n ∧ ∃ i H', Inv (X.blk s3 H3 sc ce fp) [] (wipe σ (own.map (·.2))) H' s' ∧ tn i s'.heap ∧ (∀ b ∈ fp, H' b = none) ∧ W i m H'
              | .error _ => False) s11 := by
        refine dloop_in (fun k s' => ∃ j H', Inv (X.blk s3 H3 sc ce fp) ([] ++ pinsAt fp s7.heap) (wipe σ8 vj) H' s' ∧ tn1 j s'.heap ∧ (∀ b ∈ fp1, H' b = none) ∧ W1 j k H') ?_ m1 ⟨0, H11, I11.weak (wipe_length _ _) (fun j v e => (wipe_some e).1), st11, fun b hb => (f11 b hb).1, w1⟩
        rintro k s12 ⟨j12, H12, I12, st12, n12, w12⟩
        rcases turn1 j12 k H12 w12 with ⟨stop1, nx1⟩ | ⟨go1, Nx1, hNx1, step1⟩
        · refine thnF (T1.done (X.blk s3 H3 sc ce fp) rfl rfl rfl hc j12 _ s12 (wipe σ8 vj) H12 (fun _ _ => False) I12 (stat1 n12) st12 stop1) fun r s13 ⟨hr, I13⟩ => ?_
          subst hr
          exact fin I13 (hl8.trans (wipe_length σ8 vj).symm) hk9 nx1
        · refine thnF (T1.item (X.blk s3 H3 sc ce fp) rfl rfl rfl hc j12 _ s12 (wipe σ8 vj) H12 (fun _ _ => False) I12 (stat1 n12) st12 go1) fun r s13 ⟨u1, hr, h13⟩ => ?_
          subst hr
          refine thnF h13 fun _ s14 ⟨x1, H14, I14, r14, y14, st14, n14⟩ => ?_
          have I14' := I14.pinned (stat1 n14) (T1.obj _ _ st14)
          refine thnF (pgj.run _ s14 (wipe σ8 vj) H14 x1 u1 _ I14' r14 (step1 x1 H14 y14)) fun _ s15 ⟨σ15, H15, I15, hw15, q15⟩ => ?_
          refine thnF (pk.run _ s15 σ15 H15 _ I15 q15) fun z s16 ⟨yk, H16, I16, r16, q16⟩ => ?_
          refine thnF (px.run _ s16 σ15 H16 _ I16 q16) fun z2 s17 ⟨yv, H17, I17, r17, kvs, kk, ek, hD17, hz17, nx⟩ => ?_
          subst ek
          refine d_dictSet (X := X.blk s3 H3 sc ce fp) I17 hD17 hz17 r16 r17 fun s18 I18 => ?_
          obtain ⟨m', hm, w'⟩ := hNx1 _ nx
          have stay : ∀ b ∈ fp1, ∀ o, s14.heap.get? b = some o → s18.heap.get? b = some o ∧ upd H17 D (.dK (putK kvs kk yv)) b = none := fun b hb o e =>
            let z := I18.pin (b, o) (List.mem_append_right _ (List.mem_append_right _ (mem_pinsAt hb e)))
            ⟨z.1, z.2.1⟩
          refine ⟨m', hm, j12 + 1, _, I18.unpinned.weak (by rw [← hw15, wipe_length]) (fun j v e => by rw [← hw15] at e; exact (wipe_some e).1), T1.keep _ _ _ st14 fun b hb o e => (stay b hb o e).1, fun b hb => ?_, w'⟩
          obtain ⟨o, e, _⟩ := T1.obj _ _ st14 b hb
          exact (stay b hb o e).2
      exact dstart1 loop1 (T1.self X.A 0 _ _ _ st11 loop1)
  exact codeAny_compStart_dict loop (T.self X.A 0 _ _ _ st4 loop)
end
end K76

set_option Elab.async false
set_option linter.all false
set_option maxRecDepth 100000
set_option maxHeartbeats 2000000
/-! k76: enumerate(zip(tuple, tuple)): the zip's pair stays out. -/
namespace K76
open PySem
/-- a zip in any state -/
abbrev ZF (h : Heap) (z TI TO : Addr) (v : Value) (f : Bool) : Prop := h.get? z = some { cls := .type "zip", dict := none, data := .fields #[v, .bool f, .bool false, .ref TI, .ref TO], slots := #[] }
def Hold (v : Value) : Prop := v = .none ∨ ∃ T : Addr, v = rawInt T
section
variable {prog : Program} {w : World} {A : Around} {E : Value → Shared → Prop} {s : Shared}
theorem z_free {z TI TO : Addr} {v : Value} {f : Bool} {Q : Bool → Shared → Prop} (hz : ZF s.heap z TI TO v f) (hv : Hold v) (ht : Q true s) (hf : ∀ h', ZF h' z TI TO v true → Heap.SameBut z s.heap h' → Q false { s with heap := h' }) :
    wpAny (model prog w) A (Builtin.SmallTypes.ownedTupleIsFree (.ref z)) Q E s := by
  unfold Builtin.SmallTypes.ownedTupleIsFree
  rcases hv with rfl | ⟨T, rfl⟩
  · exact wpAny_bind (wpAny_field hz rfl (x := .none) rfl (wpAny_pure ht))
  · refine wpAny_bind (wpAny_field hz rfl (x := rawInt T) rfl ?_)
    show wpAny _ _ (loadIfAlive ((T : Int).toNat) >>= _) _ _ _
    rw [Int.toNat_natCast]
    cases hT : s.heap.get? T with
    | none =>
      have h' : wpAny (model prog w) A (loadIfAlive T) (fun o s' => o = none ∧ s' = s) E s := fun _ _ _ => ⟨hT, rfl⟩
      refine wpAny_bind (wpAny_mono h' ?_ fun _ _ e => e)
      rintro o s' ⟨rfl, rfl⟩
      simp only [Option.isNone_none, if_true]
      exact wpAny_pure ht
    | some oT =>
      refine wpAny_bind (PySem.W.kdx_alive hT ?_)
      simp only [Option.isNone_some, Bool.false_eq_true, if_false]
      refine wpAny_bind (wpAny_field hz rfl (x := .bool f) rfl ?_)
      cases f with
      | true =>
        rw [if_neg (show ¬ ((Value.bool true != Value.bool true) = true) from Bool.false_ne_true)]
        exact wpAny_pure (hf s.heap hz (Heap.SameBut.refl _ _))
      | false =>
        rw [if_pos (show (Value.bool false != Value.bool true) = true from rfl)]
        exact wpAny_bind (wpAny_setField_rec hz (by simp) fun h1 hz1 hs1 => wpAny_pure (hf h1 hz1 hs1))
theorem ze_item {z TI TO i1 i2 l1 l2 : Addr} {k : Nat} {xs ys : Array Value} {x y a b v : Value} {f : Bool} {Q : Value → Shared → Prop} (D : ZipApart z TI TO i1 i2 l1 l2) (hz : ZF s.heap z TI TO v f) (hv : Hold v)
    (hTI : IsPair s.heap TI (.ref i1) (.ref i2)) (hTO : IsPair s.heap TO a b) (h1 : s.heap.IsTupleIter i1 l1 k) (h2 : s.heap.IsTupleIter i2 l2 k) (hl1 : s.heap.IsTuple l1 xs) (hl2 : s.heap.IsTuple l2 ys) (hx : xs[k]? = some x) (hy : ys[k]? = some y)
    (hQ : ∀ h' v' f', ZF h' z TI TO v' f' → Hold v' → (∃ a b, IsPair h' TO a b) → h'.IsTupleIter i1 l1 (k + 1) → h'.IsTupleIter i2 l2 (k + 1) → IsPair h' s.heap.objs.size x y → h'.objs.size = s.heap.objs.size + 1 →
      (∀ c o, c ≠ z → c ≠ TO → c ≠ i1 → c ≠ i2 → s.heap.get? c = some o → h'.get? c = some o) → Q (.ref s.heap.objs.size) { s with heap := h' }) :
    wpAny (model prog w) A (Builtin.SmallTypes.nextOf (.ref z)) Q E s := by
  have ty : s.TypeIs (.ref z) "zip" := ⟨_, hz, rfl⟩
  unfold Builtin.SmallTypes.nextOf
  refine wpAny_bind (wpAny_callSpecial?_slot (name := Str.ofString "__next__") ty F.slot_zip_next (wpAny_call_entry F.slot_zip_next ty F.entry_zip_next ?_ (F.args_zip_next_1 _)))
  show wpAny _ _ (field (.ref z) 2 >>= _) _ _ s; refine wpAny_bind (wpAny_field hz rfl (x := .bool false) rfl ?_)
  show wpAny _ _ (field (.ref z) 3 >>= _) _ _ s; refine wpAny_bind (wpAny_field hz rfl (x := .ref TI) rfl (wpAny_bind (wpAny_seqItems hTI rfl ?_)))
  show wpAny _ _ (Builtin.SmallTypes.ownedTupleIsFree (.ref z) >>= _) _ _ s; refine wpAny_bind (z_free hz hv ?_ fun g1 z1 s1 => ?_)
  · -- its pair is free
    simp only [if_true]
    refine wpAny_bind (wpAny_rule (wpAny_bind (wpAny_field hz rfl (x := .ref TO) rfl (wpAny_bind (wpAny_setField_rec hz (by simp) fun g1 z1 s1 => ?_)))))
    replace z1 : ZF g1 z TI TO .ellipsis f := z1
    refine wpAny_bind ?_
    simp only [List.zipIdx_cons, List.zipIdx_nil, List.forIn_cons, List.forIn_nil]
    refine wpAny_bind (wpAny_bind (wpAny_onRaise ?_))
    show wpAny _ _ (Builtin.SmallTypes.nextOf _ >>= _) _ _ _; refine wpAny_bind (RZ.nextOf_tuple_item (h1.extBut s1.extBut D.i1z) (hl1.extBut s1.extBut D.l1z) hx fun g2 j1 s2 => wpAny_pure ?_)
    have t2 : IsPair g2 TO a b := s2.extBut _ _ D.TOi1 (s1.extBut _ _ D.TOz hTO)
    refine wpAny_bind (wpAny_seqItems t2 rfl (wpAny_bind (wpAny_updateSeq_pair t2 fun g3 t3 s3 => ?_)))
    replace t3 : IsPair g3 TO x b := t3
    refine wpAny_bind (wpAny_letGo (wpAny_pure (wpAny_bind (wpAny_bind (wpAny_onRaise ?_)))))
    show wpAny _ _ (Builtin.SmallTypes.nextOf _ >>= _) _ _ _; refine wpAny_bind (RZ.nextOf_tuple_item (((h2.extBut s1.extBut D.i2z).extBut s2.extBut D.i12.symm).extBut s3.extBut D.TOi2.symm) (((hl2.extBut s1.extBut D.l2z).extBut s2.extBut D.l2i1).extBut s3.extBut D.l2TO) hy fun g4 j2 s4 => wpAny_pure ?_)
    have t4 : IsPair g4 TO x b := s4.extBut _ _ D.TOi2 t3
    refine wpAny_bind (wpAny_seqItems t4 rfl (wpAny_bind (wpAny_updateSeq_pair t4 fun g5 t5 s5 => ?_)))
    replace t5 : IsPair g5 TO x y := t5
    refine wpAny_bind (wpAny_letGo (wpAny_pure (wpAny_pure (wpAny_bind (wpAny_seqItems t5 rfl (wpAny_bind (wpAny_newTuple ?_)))))))
    have sz : g5.objs.size = s.heap.objs.size := by rw [s5.1, s4.1, s3.1, s2.1, s1.1]
    have z5 : ZF g5 z TI TO .ellipsis f := s5.extBut _ _ D.TOz.symm (s4.extBut _ _ D.i2z.symm (s3.extBut _ _ D.TOz.symm (s2.extBut _ _ D.i1z.symm z1)))
    have keep : ∀ c o, c ≠ z → c ≠ TO → c ≠ i1 → c ≠ i2 → s.heap.get? c = some o → g5.get? c = some o := fun c o c1 c2 c3 c4 e => s5.extBut _ _ c2 (s4.extBut _ _ c4 (s3.extBut _ _ c2 (s2.extBut _ _ c3 (s1.extBut _ _ c1 e))))
    have k1 : g5.IsTupleIter i1 l1 (k + 1) := ((j1.extBut s3.extBut D.TOi1.symm).extBut s4.extBut D.i12).extBut s5.extBut D.TOi1.symm
    have k2 : g5.IsTupleIter i2 l2 (k + 1) := j2.extBut s5.extBut D.TOi2.symm
    have ltz : z < g5.objs.size := Heap.lt_size z5
    show wpAny _ _ (Builtin.SmallTypes.ownedTupleHandOut (.ref z) (.ref g5.objs.size) >>= _) _ _ _; refine wpAny_bind ?_
    unfold Builtin.SmallTypes.ownedTupleHandOut
    have z6 : ZF (g5.push { cls := .type "tuple", data := .seq #[x, y] }) z TI TO .ellipsis f := Heap.get?_push_of_some _ z5
    refine wpAny_bind (wpAny_setField_rec z6 (by simp) fun g7 z7 s7 => ?_)
    replace z7 : ZF g7 z TI TO (rawInt g5.objs.size) f := z7
    refine wpAny_setField_rec z7 (by simp) fun g8 z8 s8 => ?_
    replace z8 : ZF g8 z TI TO (rawInt g5.objs.size) false := z8
    have up : ∀ c o, c ≠ z → g5.get? c = some o → g8.get? c = some o := fun c o c1 e => s8.extBut _ _ c1 (s7.extBut _ _ c1 (Heap.get?_push_of_some _ e))
    have p8 : IsPair g8 g5.objs.size x y := s8.extBut _ _ (Nat.ne_of_gt ltz) (s7.extBut _ _ (Nat.ne_of_gt ltz) (Heap.get?_push_size _ rfl))
    have n8 : g8.objs.size = g5.objs.size + 1 := by rw [s8.1, s7.1, Heap.size_push]
    rw [sz] at z8 p8 n8
    refine wpAny_pure ⟨_, rfl, ?_⟩
    show wpAny _ _ _ _ _ _
    rw [sz]
    exact wpAny_pure (hQ g8 _ _ z8 (.inr ⟨_, rfl⟩) ⟨_, _, up _ _ D.TOz t5⟩ (k1.at fun o e => up _ o D.i1z e) (k2.at fun o e => up _ o D.i2z e) p8 n8 fun c o c1 c2 c3 c4 e => up c o c1 (keep c o c1 c2 c3 c4 e))
  · -- its pair is out
    simp only [Bool.false_eq_true, if_false]
    refine wpAny_bind ?_
    rw [← Array.forIn_toList]
    simp only [List.forIn_cons, List.forIn_nil]
    refine wpAny_bind (wpAny_bind (wpAny_holding ?_))
    show wpAny _ _ (Builtin.SmallTypes.nextOf _ >>= _) _ _ _; refine wpAny_bind (RZ.nextOf_tuple_item (s := { s with heap := g1 }) (h1.extBut s1.extBut D.i1z) (hl1.extBut s1.extBut D.l1z) hx fun g2 j1 s2 => wpAny_pure (wpAny_pure (wpAny_bind (wpAny_bind (wpAny_holding ?_)))))
    show wpAny _ _ (Builtin.SmallTypes.nextOf _ >>= _) _ _ _; refine wpAny_bind (RZ.nextOf_tuple_item (s := { s with heap := g2 }) ((h2.extBut s1.extBut D.i2z).extBut s2.extBut D.i12.symm) ((hl2.extBut s1.extBut D.l2z).extBut s2.extBut D.l2i1) hy fun g3 j2 s3 => wpAny_pure (wpAny_pure (wpAny_pure ?_)))
    show wpAny _ _ (newTuple [x, y] >>= _) _ _ _
    refine wpAny_bind (wpAny_newTuple ?_)
    have sz : g3.objs.size = s.heap.objs.size := by rw [s3.1, s2.1, s1.1]
    have z3 : ZF g3 z TI TO v true := s3.extBut _ _ D.i2z.symm (s2.extBut _ _ D.i1z.symm z1)
    have keep : ∀ c o, c ≠ z → c ≠ i1 → c ≠ i2 → s.heap.get? c = some o → g3.get? c = some o := fun c o c1 c2 c3 e => s3.extBut _ _ c3 (s2.extBut _ _ c2 (s1.extBut _ _ c1 e))
    have k1 : g3.IsTupleIter i1 l1 (k + 1) := j1.extBut s3.extBut D.i12
    have p : IsPair (g3.push { cls := .type "tuple", data := .seq #[x, y] }) g3.objs.size x y := Heap.get?_push_size _ rfl
    have n : (g3.push { cls := .type "tuple", data := .seq #[x, y] }).objs.size = g3.objs.size + 1 := Heap.size_push ..
    refine wpAny_pure ⟨_, rfl, ?_⟩
    show wpAny _ _ _ _ _ _
    rw [sz] at p n ⊢
    exact wpAny_pure (hQ _ _ _ (Heap.get?_push_of_some _ z3) hv ⟨a, b, Heap.get?_push_of_some _ (keep _ _ D.TOz D.TOi1 D.TOi2 hTO)⟩ (k1.at fun o e => Heap.get?_push_of_some _ e) (j2.at fun o e => Heap.get?_push_of_some _ e) p n
      fun c o c1 c2 c3 c4 e => Heap.get?_push_of_some _ (keep c o c1 c3 c4 e))
end
end K76

set_option Elab.async false
set_option linter.all false
set_option maxRecDepth 100000
set_option maxHeartbeats 2000000
/-! k76: enumerate(zip(tuple, tuple)), steps of the two iterators. -/
namespace K76
open PySem
section
variable {prog : Program} {w : World} {A : Around} {E : Value → Shared → Prop} {s : Shared}
theorem ze_end {z TI TO i1 i2 l1 l2 : Addr} {k : Nat} {xs ys : Array Value} {a b v : Value} {f : Bool} {Q : Value → Shared → Prop} (hh : A.handled = none) (D : ZipApart z TI TO i1 i2 l1 l2) (hz : ZF s.heap z TI TO v f) (hv : Hold v)
    (hTI : IsPair s.heap TI (.ref i1) (.ref i2)) (hTO : IsPair s.heap TO a b) (h1 : s.heap.IsTupleIter i1 l1 k) (h2 : s.heap.IsTupleIter i2 l2 k) (hl1 : s.heap.IsTuple l1 xs) (hl2 : s.heap.IsTuple l2 ys) (hend : xs[k]? = none ∨ ys[k]? = none)
    (hE : ∀ h' e, (∀ c o, c ≠ z → c ≠ TO → c ≠ i1 → c ≠ i2 → s.heap.get? c = some o → h'.get? c = some o) → (∃ o, h'.get? e = some o ∧ o.cls = .type "StopIteration") → E (.ref e) { s with heap := h' }) :
    wpAny (model prog w) A (Builtin.SmallTypes.nextOf (.ref z)) Q E s := by
  have ty : s.TypeIs (.ref z) "zip" := ⟨_, hz, rfl⟩
  unfold Builtin.SmallTypes.nextOf
  refine wpAny_bind (wpAny_callSpecial?_slot (name := Str.ofString "__next__") ty F.slot_zip_next (wpAny_call_entry F.slot_zip_next ty F.entry_zip_next ?_ (F.args_zip_next_1 _)))
  show wpAny _ _ (field (.ref z) 2 >>= _) _ _ s; refine wpAny_bind (wpAny_field hz rfl (x := .bool false) rfl ?_)
  show wpAny _ _ (field (.ref z) 3 >>= _) _ _ s; refine wpAny_bind (wpAny_field hz rfl (x := .ref TI) rfl (wpAny_bind (wpAny_seqItems hTI rfl ?_)))
  show wpAny _ _ (Builtin.SmallTypes.ownedTupleIsFree (.ref z) >>= _) _ _ s; refine wpAny_bind (z_free hz hv ?_ fun g1 z1 s1 => ?_)
  · simp only [if_true]
    refine wpAny_bind (wpAny_rule (wpAny_bind (wpAny_field hz rfl (x := .ref TO) rfl (wpAny_bind (wpAny_setField_rec hz (by simp) fun g1 z1 s1 => ?_)))))
    replace z1 : ZF g1 z TI TO .ellipsis f := z1
    refine wpAny_bind ?_
    simp only [List.zipIdx_cons, List.zipIdx_nil, List.forIn_cons, List.forIn_nil]
    refine wpAny_bind (wpAny_bind (wpAny_onRaise ?_))
    show wpAny _ _ (Builtin.SmallTypes.nextOf _ >>= _) _ _ _
    cases hx : xs[k]? with
    | none =>
      refine wpAny_bind (RZ.nextOf_tuple_end hh (h1.extBut s1.extBut D.i1z) (hl1.extBut s1.extBut D.l1z) hx fun g2 e s2 he => ?_)
      obtain ⟨oe, hoe, hce⟩ := he
      have z2 : ZF g2 z TI TO .ellipsis f := s2 _ _ D.i1z.symm z1
      have hez : e ≠ z := fun x => by subst x; rw [z2] at hoe; cases hoe; simp at hce
      exact wpAny_setField_rec z2 (by simp) fun g3 _ s3 => hE g3 e (fun c o c1 _ c3 _ x => s3.extBut _ _ c1 (s2 _ _ c3 (s1.extBut _ _ c1 x))) ⟨oe, s3.extBut _ _ hez hoe, hce⟩
    | some x =>
      have hy : ys[k]? = none := hend.resolve_left (by rw [hx]; exact Option.some_ne_none x)
      refine wpAny_bind (RZ.nextOf_tuple_item (h1.extBut s1.extBut D.i1z) (hl1.extBut s1.extBut D.l1z) hx fun g2 j1 s2 => wpAny_pure ?_)
      have t2 : IsPair g2 TO a b := s2.extBut _ _ D.TOi1 (s1.extBut _ _ D.TOz hTO)
      refine wpAny_bind (wpAny_seqItems t2 rfl (wpAny_bind (wpAny_updateSeq_pair t2 fun g3 t3 s3 => ?_)))
      refine wpAny_bind (wpAny_letGo (wpAny_pure (wpAny_bind (wpAny_bind (wpAny_onRaise ?_)))))
      show wpAny _ _ (Builtin.SmallTypes.nextOf _ >>= _) _ _ _
      refine wpAny_bind (RZ.nextOf_tuple_end hh (((h2.extBut s1.extBut D.i2z).extBut s2.extBut D.i12.symm).extBut s3.extBut D.TOi2.symm) (((hl2.extBut s1.extBut D.l2z).extBut s2.extBut D.l2i1).extBut s3.extBut D.l2TO) hy fun g4 e s4 he => ?_)
      obtain ⟨oe, hoe, hce⟩ := he
      have z4 : ZF g4 z TI TO .ellipsis f := s4 _ _ D.i2z.symm (s3.extBut _ _ D.TOz.symm (s2.extBut _ _ D.i1z.symm z1))
      have hez : e ≠ z := fun x => by subst x; rw [z4] at hoe; cases hoe; simp at hce
      exact wpAny_setField_rec z4 (by simp) fun g5 _ s5 => hE g5 e (fun c o c1 c2 c3 c4 x => s5.extBut _ _ c1 (s4 _ _ c4 (s3.extBut _ _ c2 (s2.extBut _ _ c3 (s1.extBut _ _ c1 x))))) ⟨oe, s5.extBut _ _ hez hoe, hce⟩
  · simp only [Bool.false_eq_true, if_false]
    refine wpAny_bind ?_
    rw [← Array.forIn_toList]
    simp only [List.forIn_cons, List.forIn_nil]
    refine wpAny_bind (wpAny_bind (wpAny_holding ?_))
    show wpAny _ _ (Builtin.SmallTypes.nextOf _ >>= _) _ _ _
    cases hx : xs[k]? with
    | none =>
      refine wpAny_bind (RZ.nextOf_tuple_end (s := { s with heap := g1 }) hh (h1.extBut s1.extBut D.i1z) (hl1.extBut s1.extBut D.l1z) hx fun g2 e s2 he => ?_)
      exact hE g2 e (fun c o c1 _ c3 _ x => s2 _ _ c3 (s1.extBut _ _ c1 x)) he
    | some x =>
      have hy : ys[k]? = none := hend.resolve_left (by rw [hx]; exact Option.some_ne_none x)
      refine wpAny_bind (RZ.nextOf_tuple_item (s := { s with heap := g1 }) (h1.extBut s1.extBut D.i1z) (hl1.extBut s1.extBut D.l1z) hx fun g2 j1 s2 => wpAny_pure (wpAny_pure (wpAny_bind (wpAny_bind (wpAny_holding ?_)))))
      show wpAny _ _ (Builtin.SmallTypes.nextOf _ >>= _) _ _ _
      refine wpAny_bind (RZ.nextOf_tuple_end (s := { s with heap := g2 }) hh ((h2.extBut s1.extBut D.i2z).extBut s2.extBut D.i12.symm) ((hl2.extBut s1.extBut D.l2z).extBut s2.extBut D.l2i1) hy fun g3 e s3 he => ?_)
      exact hE g3 e (fun c o c1 _ c3 c4 x => s3 _ _ c4 (s2.extBut _ _ c3 (s1.extBut _ _ c1 x))) he
/-- the enumerate's next, its source told by nextOf -/
theorem en_item {e it : Addr} {i : Int} {old : Value} {Q : Option Value → Shared → Prop} (he : IsEnum s.heap e it i old)
    (src : ∀ (A' : Around) (E' : Value → Shared → Prop) (Q' : Value → Shared → Prop), (∀ x h1 tk, IsEnum h1 e it i old → (∀ h' , (∀ b o, b ≠ e → h1.get? b = some o → h'.get? b = some o) → IsEnumOut h' e it (i + 1) x h1.objs.size →
        h'.get? h1.objs.size = some { cls := .type "tuple", data := .seq #[.int i tk, x] } → h'.objs.size = h1.objs.size + 1 → Q (some (.ref h1.objs.size)) { s with heap := h', toks := tk + 1 }) → Q' x { s with heap := h1, toks := tk }) →
      A'.handled = A.handled → wpAny (model prog w) A' (Builtin.SmallTypes.nextOf (.ref it)) Q' E' s) :
    wpAny (model prog w) A (pyNext (.ref e)) Q E s := by
  have ty : s.TypeIs (.ref e) "enumerate" := ⟨_, he, rfl⟩
  unfold pyNext
  refine wpAny_bind (wpAny_attempt (wpAny_callSpecial?_slot (name := Str.ofString "__next__") ty F.slot_enumerate_next (wpAny_call_entry F.slot_enumerate_next ty F.entry_enumerate_next ?_ (F.args_enumerate_next_1 _))))
  obtain ⟨hp, g, d, tk0, os⟩ := s
  show wpAny _ _ (field (.ref e) 2 >>= _) _ _ _; refine wpAny_bind (wpAny_field he rfl (x := .ref it) rfl (wpAny_bind (src _ _ _ (fun x h1 tk e1 hQ => ?_) rfl)))
  show wpAny _ _ (field (.ref e) 3 >>= _) _ _ ⟨h1, g, d, tk, os⟩; refine wpAny_bind (wpAny_field e1 rfl (x := rawInt i) rfl ?_)
  show wpAny _ _ (field (.ref e) 4 >>= _) _ _ ⟨h1, g, d, tk, os⟩; refine wpAny_bind (wpAny_field e1 rfl (x := .none) rfl ?_)
  show wpAny _ _ (mkInt i >>= _) _ _ ⟨h1, g, d, tk, os⟩; refine wpAny_bind (wpAny_mkInt ?_)
  show wpAny _ _ (setField (.ref e) 3 (rawInt (i + 1)) >>= _) _ _ ⟨h1, g, d, tk + 1, os⟩; refine wpAny_bind (wpAny_setField_rec e1 (by simp) fun h2 e2 s2 => ?_)
  replace s2 : Heap.SameBut e h1 h2 := s2
  replace e2 : IsEnum h2 e it (i + 1) old := e2
  show wpAny _ _ (setField (.ref e) 4 .none >>= _) _ _ ⟨h2, g, d, tk + 1, os⟩; refine wpAny_bind (wpAny_setField_rec e2 (by simp) fun h3 e3 s3 => ?_)
  replace s3 : Heap.SameBut e h2 h3 := s3
  replace e3 : IsEnum h3 e it (i + 1) old := e3
  show wpAny _ _ (newTuple [.int i tk, x] >>= _) _ _ ⟨h3, g, d, tk + 1, os⟩; refine wpAny_bind (wpAny_newTuple ?_)
  have sz : h3.objs.size = h1.objs.size := by rw [s3.1, s2.1]
  have lte : e < h3.objs.size := Heap.lt_size e3
  have e4 : IsEnum (h3.push { cls := .type "tuple", data := .seq #[.int i tk, x] }) e it (i + 1) old := Heap.get?_push_of_some _ e3
  have t4 : (h3.push { cls := .type "tuple", data := .seq #[.int i tk, x] }).get? h3.objs.size = some { cls := .type "tuple", data := .seq #[.int i tk, x] } := Heap.get?_push_size _ rfl
  have n4 : (h3.push { cls := .type "tuple", data := .seq #[.int i tk, x] }).objs.size = h3.objs.size + 1 := Heap.size_push ..
  have k4 : ∀ b o, b ≠ e → h1.get? b = some o → (h3.push { cls := .type "tuple", data := .seq #[.int i tk, x] }).get? b = some o := fun b o hb q => Heap.get?_push_of_some _ (s3.extBut b o hb (s2.extBut b o hb q))
  rw [sz] at t4 n4
  rw [sz] at lte
  generalize h3.push { cls := .type "tuple", data := .seq #[.int i tk, x] } = h4 at e4 t4 n4 k4
  show wpAny _ _ (Builtin.SmallTypes.ownedTupleIsFree (.ref e) >>= _) _ _ ⟨h4, g, d, tk + 1, os⟩
  rw [sz]
  refine wpAny_bind ?_
  unfold Builtin.SmallTypes.ownedTupleIsFree
  refine wpAny_bind (wpAny_field e4 rfl (x := .none) rfl (wpAny_pure ?_))
  simp only [if_true]
  refine wpAny_bind (wpAny_rule (wpAny_bind (wpAny_field e4 rfl (x := old) rfl (wpAny_bind (wpAny_setField_rec e4 (by simp) fun h5 e5 s5 => ?_)))))
  replace s5 : Heap.SameBut e h4 h5 := s5
  replace e5 : IsEnum h5 e it (i + 1) x := e5
  show wpAny _ _ (Builtin.SmallTypes.ownedTupleHandOut (.ref e) (.ref h1.objs.size) >>= _) _ _ ⟨h5, g, d, tk + 1, os⟩
  refine wpAny_bind ?_
  unfold Builtin.SmallTypes.ownedTupleHandOut
  refine wpAny_bind (wpAny_setField_rec e5 (by simp) fun h6 e6 s6 => ?_)
  replace s6 : Heap.SameBut e h5 h6 := s6
  replace e6 : IsEnumOut h6 e it (i + 1) x h1.objs.size := e6
  refine wpAny_setField_rec e6 (by simp) fun h7 e7 s7 => ?_
  replace s7 : Heap.SameBut e h6 h7 := s7
  replace e7 : IsEnumOut h7 e it (i + 1) x h1.objs.size := e7
  refine wpAny_bind (wpAny_letGo (wpAny_pure ⟨_, rfl, wpAny_pure (hQ h7 (fun b o hb q => s7.extBut b o hb (s6.extBut b o hb (s5.extBut b o hb (k4 b o hb q)))) e7 ?_ ?_)⟩))
  · exact s7.extBut _ _ (Nat.ne_of_gt lte) (s6.extBut _ _ (Nat.ne_of_gt lte) (s5.extBut _ _ (Nat.ne_of_gt lte) t4))
  · rw [s7.1, s6.1, s5.1, n4]
theorem en_end {e it : Addr} {i : Int} {old : Value} {Q : Option Value → Shared → Prop} (he : IsEnum s.heap e it i old)
    (src : ∀ (A' : Around) (E' : Value → Shared → Prop) (Q' : Value → Shared → Prop), (∀ h1 x, (∃ o, h1.get? x = some o ∧ o.cls = .type "StopIteration") → Q none { s with heap := h1 } → E' (.ref x) { s with heap := h1 }) →
      A'.handled = A.handled → wpAny (model prog w) A' (Builtin.SmallTypes.nextOf (.ref it)) Q' E' s) :
    wpAny (model prog w) A (pyNext (.ref e)) Q E s := by
  have ty : s.TypeIs (.ref e) "enumerate" := ⟨_, he, rfl⟩
  unfold pyNext
  refine wpAny_bind (wpAny_attempt (wpAny_callSpecial?_slot (name := Str.ofString "__next__") ty F.slot_enumerate_next (wpAny_call_entry F.slot_enumerate_next ty F.entry_enumerate_next ?_ (F.args_enumerate_next_1 _))))
  show wpAny _ _ (field (.ref e) 2 >>= _) _ _ _; refine wpAny_bind (wpAny_field he rfl (x := .ref it) rfl (wpAny_bind (src _ _ _ (fun h1 x hx hQ => ?_) rfl)))
  obtain ⟨o, ho, hc⟩ := hx
  exact wpAny_bind (wpAny_isInstance (T := "StopIteration") (b := true) ⟨o, ho, hc⟩ isSubtype_stop (wpAny_pure hQ))
end
end K76

set_option Elab.async false
set_option linter.all false
set_option maxRecDepth 100000
set_option maxHeartbeats 2000000
/-! k76: for i, x in enumerate(tuple); for i, (x, y) in enumerate(zip(tuple, tuple)); for x, y in zip(text, text). -/
namespace K76
open PySem PySem.Spec PyProof.Rows L2
/-! ### made -/
theorem mk_enum {v : Value} {o : Obj} {P : Heap → Prop} (B : Begins v o P) : Meets (Builtin.«enumerate.__new__» ⟨[.type "enumerate", v], []⟩) (fun _ R s => P s.heap ∧
      R (.ok (.ret (.ref (s.heap.push o).objs.size))) { s with heap := (s.heap.push o).push { cls := .type "enumerate", data := .fields #[.none, .bool false, .ref s.heap.objs.size, rawInt 0, .none, .none] } }) :=
  .of_wp fun prog w A R s h => by
    obtain ⟨hp, g, d, tk, os⟩ := s; obtain ⟨p, h⟩ := h
    have f0 := sub_enumerate
    have it : ∀ {A' : Around} {E : Value → Shared → Prop} {Q : Value → Shared → Prop}, Q (.ref hp.objs.size) ⟨hp.push o, g, d, tk, os⟩ → wpAny (model prog w) A' (pyIter v) Q E ⟨hp, g, d, tk, os⟩ := fun q => B.iter prog w _ _ ⟨hp, g, d, tk, os⟩ _ p q
    wp_walk using it
    refine wpAny_stack_any fun st => wpAny_pure ?_
    split
    · rename_i c _ _ _ _ _
      cases (c == Value.type "enumerate") <;> (wp_walk using it; exact ⟨_, rfl, h⟩)
    · wp_walk using it
      exact ⟨_, rfl, h⟩
theorem mk_enum_zip (z TI TO : Addr) : Meets (Builtin.«enumerate.__new__» ⟨[.type "enumerate", .ref z], []⟩) (fun _ R s => IsZip s.heap z TI TO .none ∧
      R (.ok (.ret (.ref s.heap.objs.size))) { s with heap := s.heap.push { cls := .type "enumerate", data := .fields #[.none, .bool false, .ref z, rawInt 0, .none, .none] } }) :=
  .of_wp fun prog w A R s h => by
    obtain ⟨hp, g, d, tk, os⟩ := s; obtain ⟨p, h⟩ := h
    have f0 := sub_enumerate
    have it : ∀ {A' : Around} {E : Value → Shared → Prop} {Q : Value → Shared → Prop}, Q (.ref z) ⟨hp, g, d, tk, os⟩ → wpAny (model prog w) A' (pyIter (.ref z)) Q E ⟨hp, g, d, tk, os⟩ := fun q => wpAny_pyIter_zip (s := ⟨hp, g, d, tk, os⟩) p q
    wp_walk using it
    refine wpAny_stack_any fun st => wpAny_pure ?_
    split
    · rename_i c _ _ _ _ _
      cases (c == Value.type "enumerate") <;> (wp_walk using it; exact ⟨_, rfl, h⟩)
    · wp_walk using it
      exact ⟨_, rfl, h⟩
section
variable {prog : Program} {w : World} {A : Around} {E : Value → Shared → Prop} {s : Shared}
theorem call_enum {v : Value} {o : Obj} {P : Heap → Prop} {Q : Value → Shared → Prop} (B : Begins v o P) (p : P s.heap)
    (h : ∀ h', IsEnum h' (s.heap.objs.size + 1) s.heap.objs.size 0 .none → h'.get? s.heap.objs.size = some o → (∀ b o, s.heap.get? b = some o → h'.get? b = some o) → Q (.ref (s.heap.objs.size + 1)) { s with heap := h' }) :
    wpAny (model prog w) A (call (.type "enumerate") [v]) Q E s := by
  refine callType_new F.called_enumerate (by decide) (F.typeCall_enumerate_1 _) (F.newCall_enumerate_1 _) (fun obj => F.args_object_init_2 obj _) F.entry_enumerate_new (mk_enum B) ⟨p, ?_⟩
  have one : (s.heap.push o).objs.size = s.heap.objs.size + 1 := Heap.size_push ..
  have e := Heap.get?_push_size (s.heap.push o) (o := { cls := .type "enumerate", data := .fields #[.none, .bool false, .ref s.heap.objs.size, rawInt 0, .none, .none] }) rfl
  show _ ∧ _
  rw [one] at e ⊢
  exact ⟨⟨_, e, rfl⟩, h _ e (Heap.get?_push_of_some _ (Heap.get?_push_size _ B.free)) fun b o x => Heap.get?_push_of_some _ (Heap.get?_push_of_some _ x)⟩
theorem call_enum_zip {z TI TO : Addr} {Q : Value → Shared → Prop} (p : IsZip s.heap z TI TO .none)
    (h : ∀ h', IsEnum h' s.heap.objs.size z 0 .none → (∀ b o, s.heap.get? b = some o → h'.get? b = some o) → Q (.ref s.heap.objs.size) { s with heap := h' }) : wpAny (model prog w) A (call (.type "enumerate") [.ref z]) Q E s := by
  refine callType_new F.called_enumerate (by decide) (F.typeCall_enumerate_1 _) (F.newCall_enumerate_1 _) (fun obj => F.args_object_init_2 obj _) F.entry_enumerate_new (mk_enum_zip z TI TO) ⟨p, ?_⟩
  have e := Heap.get?_push_size s.heap (o := { cls := .type "enumerate", data := .fields #[.none, .bool false, .ref z, rawInt 0, .none, .none] }) rfl
  exact ⟨⟨_, e, rfl⟩, h _ e fun b o x => Heap.get?_push_of_some _ x⟩
end
/-! ### enumerate(tuple) -/
def Jet (K : PySem.W.Frag) (a : Addr) : It :=
  ⟨fun i H => ∃ (xs : List V) (x : V), SqT K H a xs ∧ xs[i]? = some x, fun i H v H' => ∃ T x, v = .ref T ∧ H T = none ∧ H' = upd H T (.tup [.int (i : Nat), x]) ∧ ∀ xs, SqT K H a xs → xs[i]? = some x, fun i H => ∃ xs : List V, SqT K H a xs ∧ xs.length ≤ i⟩
theorem nat_cast1 (i : Nat) : ((i + 1 : Nat) : Int) = (i : Int) + 1 := by omega
theorem turn_et {P : Program} {w : World} {K : PySem.W.Frag} {elts : List Expr} {kk : Nat} {tpos : Pos} (a e it : Addr) (ne : e ≠ it) (na : a ≠ it) :
    Turn P w K (.Tuple elts kk tpos) (Jet K a) [e, it] e (fun i h => (∃ old, IsEnum h e it ((i : Nat) : Int) old) ∧ h.IsTupleIter it a i) where
  mem := by simp
  obj := fun i h st b hb => by
    obtain ⟨⟨old, he⟩, ⟨o, ho, hc, hd⟩⟩ := st
    rcases List.mem_cons.mp hb with z | z
    · rw [z]; exact ⟨_, he, fun v q => nomatch q⟩
    · rw [List.mem_singleton.mp z]; exact ⟨o, ho, fun v q => by rw [hd] at q; cases q⟩
  keep := fun i h h' st k => let ⟨⟨old, he⟩, hi⟩ := st; ⟨⟨old, k e (by simp) _ he⟩, hi.at fun o q => k it (by simp) o q⟩
  item := by
    intro X hP hw hK hc i pins s σ H E I hf st hg
    subst hP hw hK
    obtain ⟨⟨old, he⟩, hit⟩ := st
    obtain ⟨xs, x, hq, hx⟩ := hg
    obtain ⟨its, rv, p, hz⟩ := I.tuple hq
    obtain ⟨u, hu, ru⟩ := rv.get hx
    have lte : e < s.heap.objs.size := Heap.lt_size he
    have lti : it < s.heap.objs.size := by obtain ⟨_, q, _⟩ := hit; exact Heap.lt_size q
    refine en_item he fun A' E' Q' k hA => RZ.nextOf_tuple_item hit p (x := u) (by simpa using hu) fun h1 hit1 s1 => ?_
    refine k u h1 s.toks ((s1.2 e ne).trans he) fun h' kp ho hT hn => ?_
    rw [s1.1] at ho hT ⊢
    refine ⟨_, rfl, wpAny_letOwnedTupleGo_enum (s := { s with heap := h', toks := s.toks + 1 }) ho fun h2 he2 sb => ?_⟩
    have hT2 : h2.get? s.heap.objs.size = some { cls := .type "tuple", data := .seq #[.int i s.toks, u] } := (sb.2 _ (Nat.ne_of_gt lte)).trans hT
    have new : ObjOk X.prog X.w (upd H s.heap.objs.size (.tup [.int (i : Nat), x])) h2 s.heap.objs.size (.tup [.int (i : Nat), x]) := ⟨by show 2 ≤ sizeLine; decide, [.int i s.toks, u], .cons ⟨_, rfl⟩ (.cons ru .nil), ⟨_, hT2, rfl, _, rfl⟩⟩
    have I1 := I.turnedNew (t' := s.toks + 1) (ch := [e, it]) (fun b ob hb q => (sb.2 b (fun z => hb (by simp [z]))).trans (kp b ob (fun z => hb (by simp [z])) (s1.extBut b ob (fun z => hb (by simp [z])) q))) hf (Nat.le_refl _) new
    refine ⟨.ref s.heap.objs.size, _, I1, rfl, ⟨_, x, rfl, I.hok.fresh (Nat.le_refl _), rfl, fun ys hy => by rw [I.tuple_inj hy hq]; exact hx⟩, ⟨⟨u, by rw [nat_cast1]; exact he2⟩, hit1.at fun o q => (sb.2 it ne.symm).trans (kp _ _ ne.symm q)⟩, fun b hb => ?_⟩
    have hlt : b < s.heap.objs.size := by
      rcases List.mem_cons.mp hb with z | z
      · rw [z]; exact lte
      · rw [List.mem_singleton.mp z]; exact lti
    rw [upd_ne (Nat.ne_of_lt hlt)]
    exact (hf b hb).1
  done := by
    intro X hP hw hK hc i pins s σ H E I hf st hg
    subst hP hw hK
    obtain ⟨⟨old, he⟩, hit⟩ := st
    obtain ⟨xs, hq, hx⟩ := hg
    obtain ⟨its, rv, p, hz⟩ := I.tuple hq
    have hl := rv.length
    refine en_end he fun A' E' Q' k hA => RZ.nextOf_tuple_end (by rw [hA]; exact I.ok.hd hc) hit p (by simp; omega) fun h1 x eb hxs => k h1 x hxs ⟨rfl, ?_⟩
    exact I.turnedL (t' := s.toks) (ch := [e, it]) (fun b o hb q => eb b o (fun z => hb (by simp [z])) q) hf
  self := fun A i s Q E st h => let ⟨⟨_, he⟩, _⟩ := st; wpAny_pyIter_enum he h
def iEnT (K : PySem.W.Frag) (ta : TA) : TI := fun σ H R => ta σ H fun vs H1 => ∃ a xs, vs = [.ref a] ∧ SqT K H1 a xs ∧ R (Jet K a) H1
theorem pi_ent {X : Cx} {e : Expr} {ta : TA} {p pos tpos : Pos} {elts : List Expr} {kk : Nat} (hg : Gl X "enumerate") (hm : X.mg "enumerate" = none) (ha : PA X [e] ta) (hs : starEach [e] X.env = [(false, eval e X.env)] := by rfl) :
    PI X (.Tuple elts kk tpos) (.Call (.Name "enumerate" p) [e] [] pos) (iEnT X.K ta) := by
  refine ⟨fun pins s σ H R I h => ?_⟩
  refine Call_ (ld_blt I hg hm boot_enumerate (PyProof.Rows.callWith_type1 (thn (ha.run pos pins s σ H _ I h) fun us s1 h1 => ?_) hs rfl))
  obtain ⟨vs, H1, I1, r1, a, xs, rfl, hq, q⟩ := h1
  rw [Vals.ref1 r1]
  obtain ⟨its, rv, p', hz⟩ := I1.tuple hq
  have lta : a < s1.heap.objs.size := by obtain ⟨_, z, _⟩ := p'; exact Heap.lt_size z
  refine call_enum (begins_tuple a its.toArray) p' fun h' he hit kp => wpAny_pyIter_enum he ?_
  have I2 : Inv X pins σ H1 { s1 with heap := h' } := I1.kept (t' := s1.toks) kp
  refine ⟨s1.heap.objs.size + 1, [s1.heap.objs.size + 1, s1.heap.objs.size], _, _, H1, rfl, I2, turn_et a (s1.heap.objs.size + 1) s1.heap.objs.size (Nat.succ_ne_self _) (Nat.ne_of_lt lta), ⟨⟨.none, he⟩, _, hit, rfl, rfl⟩, fun b hb => ?_, q⟩
  have le : s1.heap.objs.size ≤ b := by
    rcases List.mem_cons.mp hb with z | z
    · rw [z]; exact Nat.le_add_right _ _
    · rw [List.mem_singleton.mp z]; exact Nat.le_refl _
  exact I1.fpOk le (I1.hok.fresh le)
/-! ### enumerate(zip(tuple, tuple)) -/
def Jez (K : PySem.W.Frag) (a b : Addr) : It :=
  ⟨fun i H => ∃ (xs ys : List V) (x y : V), SqT K H a xs ∧ SqT K H b ys ∧ xs[i]? = some x ∧ ys[i]? = some y,
    fun i H v H' => ∃ S T x y, v = .ref T ∧ H S = none ∧ upd H S (.tup [x, y]) T = none ∧ H' = upd (upd H S (.tup [x, y])) T (.tup [.int (i : Nat), .ref S]) ∧ (∀ xs, SqT K H a xs → xs[i]? = some x) ∧ ∀ ys, SqT K H b ys → ys[i]? = some y,
    fun i H => ∃ xs ys : List V, SqT K H a xs ∧ SqT K H b ys ∧ (xs.length ≤ i ∨ ys.length ≤ i)⟩
theorem turn_ez {P : Program} {w : World} {K : PySem.W.Frag} {elts : List Expr} {kk : Nat} {tpos : Pos} {a b e z TI TO i1 i2 : Addr} (D : ZipApart z TI TO i1 i2 a b) (ne : ∀ c ∈ [z, TI, TO, i1, i2], e ≠ c) :
    Turn P w K (.Tuple elts kk tpos) (Jez K a b) [e, z, TI, TO, i1, i2] e (fun i h => (∃ old, IsEnum h e z ((i : Nat) : Int) old) ∧ (∃ v f, ZF h z TI TO v f ∧ Hold v) ∧ IsPair h TI (.ref i1) (.ref i2) ∧ (∃ x y, IsPair h TO x y) ∧ h.IsTupleIter i1 a i ∧ h.IsTupleIter i2 b i) where
  mem := by simp
  obj := fun i h st c hc => by
    obtain ⟨⟨old, he⟩, ⟨v, f, hz, _⟩, hTI, ⟨x, y, hTO⟩, ⟨o1, e1, _, d1⟩, ⟨o2, e2, _, d2⟩⟩ := st
    have e' : c = e ∨ c = z ∨ c = TI ∨ c = TO ∨ c = i1 ∨ c = i2 := by simpa using hc
    rcases e' with q | q | q | q | q | q
    · rw [q]; exact ⟨_, he, fun v q => nomatch q⟩
    · rw [q]; exact ⟨_, hz, fun v q => nomatch q⟩
    · rw [q]; exact ⟨_, hTI, fun v q => nomatch q⟩
    · rw [q]; exact ⟨_, hTO, fun v q => nomatch q⟩
    · rw [q]; exact ⟨o1, e1, fun v q => by rw [d1] at q; cases q⟩
    · rw [q]; exact ⟨o2, e2, fun v q => by rw [d2] at q; cases q⟩
  keep := fun i h h' st k => by
    obtain ⟨⟨old, he⟩, ⟨v, f, hz, hv⟩, hTI, ⟨x, y, hTO⟩, h1, h2⟩ := st
    exact ⟨⟨old, k e (by simp) _ he⟩, ⟨v, f, k z (by simp) _ hz, hv⟩, k TI (by simp) _ hTI, ⟨x, y, k TO (by simp) _ hTO⟩, h1.at fun o q => k i1 (by simp) o q, h2.at fun o q => k i2 (by simp) o q⟩
  item := by
    intro X hP hw hK hc i pins s σ H E I hf st hg
    subst hP hw hK
    obtain ⟨⟨old, he⟩, ⟨v, f, hz, hv⟩, hTI, ⟨x0, y0, hTO⟩, h1, h2⟩ := st
    obtain ⟨xs, ys, x, y, hqx, hqy, hx, hy⟩ := hg
    obtain ⟨its, rv, p, _⟩ := I.tuple hqx
    obtain ⟨its2, rv2, p2, _⟩ := I.tuple hqy
    obtain ⟨u, hu, ru⟩ := rv.get hx
    obtain ⟨u2, hu2, ru2⟩ := rv2.get hy
    have nez := ne z (by simp)
    have neTI := ne TI (by simp)
    have neTO := ne TO (by simp)
    have ne1 := ne i1 (by simp)
    have ne2 := ne i2 (by simp)
    have lte : e < s.heap.objs.size := Heap.lt_size he
    have lts : ∀ c ∈ [e, z, TI, TO, i1, i2], c < s.heap.objs.size := fun c hcm => by
      have e' : c = e ∨ c = z ∨ c = TI ∨ c = TO ∨ c = i1 ∨ c = i2 := by simpa using hcm
      rcases e' with q | q | q | q | q | q
      · rw [q]; exact lte
      · rw [q]; exact Heap.lt_size hz
      · rw [q]; exact Heap.lt_size hTI
      · rw [q]; exact Heap.lt_size hTO
      · rw [q]; obtain ⟨_, e1, _⟩ := h1; exact Heap.lt_size e1
      · rw [q]; obtain ⟨_, e2, _⟩ := h2; exact Heap.lt_size e2
    refine en_item he fun A' E' Q' k hA => ze_item D hz hv hTI hTO h1 h2 p p2 (x := u) (y := u2) (by simpa using hu) (by simpa using hu2) fun g v' f' gz gv gTO g1 g2 gp gn gk => ?_
    refine k _ g s.toks (gk e _ nez neTO ne1 ne2 he) fun h' kp ho hT hn => ?_
    rw [gn] at ho hT hn ⊢
    have I1 : Inv X pins σ (upd H s.heap.objs.size (.tup [x, y])) { s with heap := g, toks := s.toks } :=
      I.turnedNew (ch := [e, z, TI, TO, i1, i2]) (fun c o hb q => gk c o (fun q' => hb (by simp [q'])) (fun q' => hb (by simp [q'])) (fun q' => hb (by simp [q'])) (fun q' => hb (by simp [q'])) q) hf (Nat.le_refl _)
        ⟨by show 2 ≤ sizeLine; decide, [u, u2], .cons ru (.cons ru2 .nil), ⟨_, gp, rfl, _, rfl⟩⟩
    have hf1 : ∀ c ∈ [e, z, TI, TO, i1, i2], FpOk X pins (upd H s.heap.objs.size (.tup [x, y])) c := fun c hcm => ⟨by rw [upd_ne (Nat.ne_of_lt (lts c hcm))]; exact (hf c hcm).1, (hf c hcm).2⟩
    refine ⟨_, rfl, wpAny_letOwnedTupleGo_enum (s := { s with heap := h', toks := s.toks + 1 }) ho fun h3 he3 sb => ?_⟩
    have hT3 : h3.get? (s.heap.objs.size + 1) = some { cls := .type "tuple", data := .seq #[.int i s.toks, .ref s.heap.objs.size] } := (sb.2 _ (Nat.ne_of_gt (Nat.lt_succ_of_lt lte))).trans hT
    have up : ∀ c o, c ≠ e → g.get? c = some o → h3.get? c = some o := fun c o hc q => (sb.2 c hc).trans (kp c o hc q)
    have hn2 : upd H s.heap.objs.size (.tup [x, y]) (s.heap.objs.size + 1) = none := I1.hok.fresh (Nat.le_of_eq gn)
    have I2 : Inv X pins σ (upd (upd H s.heap.objs.size (.tup [x, y])) (s.heap.objs.size + 1) (.tup [.int (i : Nat), .ref s.heap.objs.size])) { s with heap := h3, toks := s.toks + 1 } :=
      I1.turnedNew (ch := [e, z, TI, TO, i1, i2]) (t' := s.toks + 1) (fun c o hb q => up c o (fun q' => hb (by simp [q'])) q) hf1 (Nat.le_of_eq gn) ⟨by show 2 ≤ sizeLine; decide, [.int i s.toks, .ref s.heap.objs.size], .cons ⟨_, rfl⟩ (.cons rfl .nil), ⟨_, hT3, rfl, _, rfl⟩⟩
    refine ⟨.ref (s.heap.objs.size + 1), _, I2, rfl, ⟨_, _, x, y, rfl, I.hok.fresh (Nat.le_refl _), hn2, rfl, fun l hl => by rw [I.tuple_inj hl hqx]; exact hx, fun l hl => by rw [I.tuple_inj hl hqy]; exact hy⟩,
      ⟨⟨_, by rw [nat_cast1]; exact he3⟩, ⟨v', f', up _ _ nez.symm gz, gv⟩, up _ _ neTI.symm (gk _ _ D.TIz D.TITO D.TIi1 D.TIi2 hTI), ?_, g1.at fun o q => up _ _ ne1.symm q, g2.at fun o q => up _ _ ne2.symm q⟩, fun c hcm => ?_⟩
    · obtain ⟨x', y', q⟩ := gTO
      exact ⟨x', y', up _ _ neTO.symm q⟩
    · rw [upd_ne (Nat.ne_of_lt (Nat.lt_succ_of_lt (lts c hcm)))]
      exact (hf1 c hcm).1
  done := by
    intro X hP hw hK hc i pins s σ H E I hf st hg
    subst hP hw hK
    obtain ⟨⟨old, he⟩, ⟨v, f, hz, hv⟩, hTI, ⟨x0, y0, hTO⟩, h1, h2⟩ := st
    obtain ⟨xs, ys, hqx, hqy, hend⟩ := hg
    obtain ⟨its, rv, p, _⟩ := I.tuple hqx
    obtain ⟨its2, rv2, p2, _⟩ := I.tuple hqy
    have l1 := rv.length
    have l2 := rv2.length
    refine en_end he fun A' E' Q' k hA => ze_end (by rw [hA]; exact I.ok.hd hc) D hz hv hTI hTO h1 h2 p p2 (hend.imp (fun q => by simp; omega) (fun q => by simp; omega)) fun g x gk hx => k g x hx ⟨rfl, ?_⟩
    exact I.turnedL (t' := s.toks) (ch := [e, z, TI, TO, i1, i2]) (fun c o hb q => gk c o (fun q' => hb (by simp [q'])) (fun q' => hb (by simp [q'])) (fun q' => hb (by simp [q'])) (fun q' => hb (by simp [q'])) q) hf
  self := fun A i s Q E st h => let ⟨⟨_, he⟩, _⟩ := st; wpAny_pyIter_enum he h
def iEnZ (K : PySem.W.Frag) (ta : TA) : TI := fun σ H R => ta σ H fun vs H1 => ∃ a b xs ys, vs = [.ref a, .ref b] ∧ SqT K H1 a xs ∧ SqT K H1 b ys ∧ R (Jez K a b) H1
theorem pi_enz {X : Cx} {e e2 : Expr} {ta : TA} {p pos p2 pos2 tpos : Pos} {elts : List Expr} {kk : Nat} (hg : Gl X "enumerate") (hm : X.mg "enumerate" = none) (hgz : Gl X "zip") (hmz : X.mg "zip" = none) (ha : PA X [e, e2] ta)
    (hs : starEach [e, e2] X.env = (false, eval e X.env) :: starEach [e2] X.env := by rfl) (hpl : (backTo pos2 (starEach [e2] X.env)).any (·.1) = false := by rfl) (hs1 : starEach [.Call (.Name "zip" p2) [e, e2] [] pos2] X.env = (false, eval (.Call (.Name "zip" p2) [e, e2] [] pos2) X.env) :: starEach [] X.env := by rfl) :
    PI X (.Tuple elts kk tpos) (.Call (.Name "enumerate" p) [.Call (.Name "zip" p2) [e, e2] [] pos2] [] pos) (iEnZ X.K ta) := by
  refine ⟨fun pins s σ H R I h => ?_⟩
  refine Call_ (ld_blt I hg hm boot_enumerate (PyProof.Rows.callWith_type1 (PyProof.Rows.args_cons (Call_ (ld_blt I hgz hmz PyProof.Rows.boot_zip (PyProof.Rows.callWith_type1 (thn (ha.run pos2 pins s σ H _ I h) fun us s1 h1 => ?_) hs hpl))) hs1) hs1 rfl))
  obtain ⟨vs, H1, I1, r1, a, b, xs, ys, rfl, hqx, hqy, q⟩ := h1
  cases r1 with
  | cons r rr =>
    cases rr with
    | cons r' rr =>
      cases rr
      cases r
      cases r'
      obtain ⟨its, rv, q1, _⟩ := I1.tuple hqx
      obtain ⟨its2, rv2, q2, _⟩ := I1.tuple hqy
      have lta : a < s1.heap.objs.size := by obtain ⟨_, z, _⟩ := q1; exact Heap.lt_size z
      have ltb : b < s1.heap.objs.size := by obtain ⟨_, z, _⟩ := q2; exact Heap.lt_size z
      refine RZ.call_zipT (show s1.heap.IsTuple a its.toArray from q1) (show s1.heap.IsTuple b its2.toArray from q2) fun h' hz hTI hTO j1 j2 hsz hk => PyProof.Rows.args_nil ?_
      refine call_enum_zip (s := { s1 with heap := h' }) hz fun h2 he kp => wpAny_pyIter_enum he ?_
      replace he : IsEnum h2 h'.objs.size (s1.heap.objs.size + 4) 0 .none := he
      have I2 : Inv X pins σ H1 { s1 with heap := h2 } := I1.kept (t' := s1.toks) fun c o z => kp c o (hk c o z)
      refine ⟨h'.objs.size, [h'.objs.size, s1.heap.objs.size + 4, s1.heap.objs.size + 2, s1.heap.objs.size + 3, s1.heap.objs.size, s1.heap.objs.size + 1], _, _, H1, rfl, I2, turn_ez (PySem.W.ktu_apart s1.heap.objs.size a b lta ltb) (fun c hc => ?_),
        ⟨⟨.none, he⟩, ⟨.none, false, kp _ _ hz, .inl rfl⟩, kp _ _ hTI, ⟨_, _, kp _ _ hTO⟩, j1.at fun o z => kp _ _ z, j2.at fun o z => kp _ _ z⟩, fun c hc => ?_, q⟩
      · have lt : c < s1.heap.objs.size + 5 := by
          have e' : c = s1.heap.objs.size + 4 ∨ c = s1.heap.objs.size + 2 ∨ c = s1.heap.objs.size + 3 ∨ c = s1.heap.objs.size ∨ c = s1.heap.objs.size + 1 := by simpa using hc
          rcases e' with z | z | z | z | z <;> rw [z] <;> first | exact Nat.add_lt_add_left (by decide) _ | exact Nat.lt_add_of_pos_right (by decide)
        rw [hsz]
        exact Nat.ne_of_gt lt
      · have le : s1.heap.objs.size ≤ c := by
          have e' : c = h'.objs.size ∨ c = s1.heap.objs.size + 4 ∨ c = s1.heap.objs.size + 2 ∨ c = s1.heap.objs.size + 3 ∨ c = s1.heap.objs.size ∨ c = s1.heap.objs.size + 1 := by simpa using hc
          rcases e' with z | z | z | z | z | z
          · rw [z, hsz]; exact Nat.le_add_right _ _
          · rw [z]; exact Nat.le_add_right _ _
          · rw [z]; exact Nat.le_add_right _ _
          · rw [z]; exact Nat.le_add_right _ _
          · rw [z]; exact Nat.le_refl _
          · rw [z]; exact Nat.le_add_right _ _
        exact I1.fpOk le (I1.hok.fresh le)
end K76

set_option Elab.async false
set_option linter.all false
set_option maxRecDepth 100000
set_option maxHeartbeats 2000000
/-! k76: for x, y in zip(text, text). -/
namespace K76
open PySem PySem.Spec PyProof.Rows L2
theorem apart5 (N : Nat) : ZipSep2 (N + 4) (N + 2) (N + 3) N (N + 1) [N] [N + 1] := by
  constructor <;> simp
def Jzs (x y : Str) : It :=
  ⟨fun i H => i < x.cps.size ∧ i < y.cps.size, fun i H v H' => ∃ T c d, v = .ref T ∧ H T = none ∧ H' = upd H T (.tup [.str ⟨#[c]⟩, .str ⟨#[d]⟩]) ∧ x.cps[i]? = some c ∧ y.cps[i]? = some d,
    fun i H => i ≤ x.cps.size ∧ i ≤ y.cps.size ∧ (i = x.cps.size ∨ i = y.cps.size)⟩
theorem turn_zs {P : Program} {w : World} {K : PySem.W.Frag} {elts : List Expr} {kk : Nat} {tpos : Pos} {z TI TO i1 i2 : Addr} {x y : Str} {t u : Tok} (S : ZipSep2 z TI TO i1 i2 [i1] [i2]) :
    Turn P w K (.Tuple elts kk tpos) (Jzs x y) [z, TI, TO, i1, i2] z (fun i h => IsZip h z TI TO .none ∧ IsTupOf2 h TI (.ref i1) (.ref i2) ∧ (∃ a b, IsTupOf2 h TO a b) ∧ h.IsStrIter i1 (strIterType x) x t i ∧ h.IsStrIter i2 (strIterType y) y u i) where
  mem := by simp
  obj := fun i h st c hc => by
    obtain ⟨hz, hTI, ⟨a, b, hTO⟩, ⟨o1, e1, _, d1⟩, ⟨o2, e2, _, d2⟩⟩ := st
    have e' : c = z ∨ c = TI ∨ c = TO ∨ c = i1 ∨ c = i2 := by simpa using hc
    rcases e' with q | q | q | q | q
    · rw [q]; exact ⟨_, hz, fun v q => nomatch q⟩
    · rw [q]; exact ⟨_, hTI, fun v q => nomatch q⟩
    · rw [q]; exact ⟨_, hTO, fun v q => nomatch q⟩
    · rw [q]; exact ⟨o1, e1, fun v q => by rw [d1] at q; cases q⟩
    · rw [q]; exact ⟨o2, e2, fun v q => by rw [d2] at q; cases q⟩
  keep := fun i h h' st k => by
    obtain ⟨hz, hTI, ⟨a, b, hTO⟩, ⟨o1, e1, r1⟩, ⟨o2, e2, r2⟩⟩ := st
    exact ⟨k z (by simp) _ hz, k TI (by simp) _ hTI, ⟨a, b, k TO (by simp) _ hTO⟩, ⟨o1, k i1 (by simp) _ e1, r1⟩, ⟨o2, k i2 (by simp) _ e2, r2⟩⟩
  item := by
    intro X hP hw hK hc i pins s σ H E I hf st hg
    subst hP hw hK
    obtain ⟨hz, hTI, ⟨a, b, hTO⟩, h1, h2⟩ := st
    have lts : ∀ c ∈ [z, TI, TO, i1, i2], c < s.heap.objs.size := fun c hcm => by
      have e' : c = z ∨ c = TI ∨ c = TO ∨ c = i1 ∨ c = i2 := by simpa using hcm
      rcases e' with q | q | q | q | q
      · rw [q]; exact Heap.lt_size hz
      · rw [q]; exact Heap.lt_size hTI
      · rw [q]; exact Heap.lt_size hTO
      · rw [q]; obtain ⟨_, e1, _⟩ := h1; exact Heap.lt_size e1
      · rw [q]; obtain ⟨_, e2, _⟩ := h2; exact Heap.lt_size e2
    refine wpAny_pyNext_zipD2_item S (Draws.text (A := X.A.in1) (I.ok.hd hc) i1 x t) (Draws.text (A := X.A.in1) (I.ok.hd hc) i2 y u) hz hTI hTO h1 h2 hg.1 hg.2 fun v1 v2 h' tk p1 p2 z' TO' g1 g2 hT hn hk => ?_
    obtain ⟨c, tc, hx, rfl⟩ := p1
    obtain ⟨d, td, hy, rfl⟩ := p2
    refine ⟨_, rfl, wpAny_letOwnedTupleGo_zip (s := { s with heap := h', toks := tk }) z' fun h3 z3 sb => ?_⟩
    have hT3 : IsTupOf2 h3 s.heap.objs.size (.str ⟨#[c]⟩ tc) (.str ⟨#[d]⟩ td) := (sb.2 _ (Nat.ne_of_gt (lts z (by simp)))).trans hT
    have I1 : Inv X pins σ (upd H s.heap.objs.size (.tup [.str ⟨#[c]⟩, .str ⟨#[d]⟩])) { s with heap := h3, toks := tk } :=
      I.turnedNew (ch := [z, TI, TO, i1, i2]) (fun c o hb q => (sb.2 c (fun q' => hb (by simp [q']))).trans (hk c o (fun q' => hb (by simp [q'])) (fun q' => hb (by simp [q'])) (fun q' => hb (by simp [q'])) (fun q' => hb (by simp [q'])) q)) hf (Nat.le_refl _)
        ⟨by show 2 ≤ sizeLine; decide, [.str ⟨#[c]⟩ tc, .str ⟨#[d]⟩ td], .cons ⟨_, rfl⟩ (.cons ⟨_, rfl⟩ .nil), ⟨_, hT3, rfl, _, rfl⟩⟩
    have up : ∀ c o, c ≠ z → h'.get? c = some o → h3.get? c = some o := fun c o hc q => (sb.2 c hc).trans q
    refine ⟨.ref s.heap.objs.size, _, I1, rfl, ⟨_, c, d, rfl, I.hok.fresh (Nat.le_refl _), rfl, hx, hy⟩, ⟨z3, up _ _ S.TIz (hk _ _ S.TIz S.TITO S.TIi1 S.TIi2 hTI), ⟨_, _, up _ _ S.TOz TO'⟩, ?_, ?_⟩, fun b hb => ?_⟩
    · obtain ⟨o, e, r⟩ := g1; exact ⟨o, up _ _ S.zi1.symm e, r⟩
    · obtain ⟨o, e, r⟩ := g2; exact ⟨o, up _ _ S.zi2.symm e, r⟩
    · rw [upd_ne (Nat.ne_of_lt (lts b hb))]
      exact (hf b hb).1
  done := by
    intro X hP hw hK hc i pins s σ H E I hf st hg
    subst hP hw hK
    obtain ⟨hz, hTI, ⟨a, b, hTO⟩, h1, h2⟩ := st
    refine wpAny_pyNext_zipD2_end S (Draws.text (A := X.A.in1) (I.ok.hd hc) i1 x t) (Draws.text (A := X.A.in1) (I.ok.hd hc) i2 y u) hz hTI hTO h1 h2 hg.1 hg.2.1 hg.2.2 fun h' tk hk => ⟨rfl, ?_⟩
    exact I.turnedL (ch := [z, TI, TO, i1, i2]) (fun c o hb q => hk c o (fun q' => hb (by simp [q'])) (fun q' => hb (by simp [q'])) (fun q' => hb (by simp [q'])) (fun q' => hb (by simp [q'])) q) hf
  self := fun A i s Q E st h => wpAny_pyIter_zip st.1 h
def iZipS (ta : TA) : TI := fun σ H R => ta σ H fun vs H1 => ∃ x y, vs = [.str x, .str y] ∧ R (Jzs x y) H1
theorem pi_zips {X : Cx} {e e2 : Expr} {ta : TA} {p pos tpos : Pos} {elts : List Expr} {kk : Nat} (hg : Gl X "zip") (hm : X.mg "zip" = none) (ha : PA X [e, e2] ta)
    (hs : starEach [e, e2] X.env = (false, eval e X.env) :: starEach [e2] X.env := by rfl) (hpl : (backTo pos (starEach [e2] X.env)).any (·.1) = false := by rfl) :
    PI X (.Tuple elts kk tpos) (.Call (.Name "zip" p) [e, e2] [] pos) (iZipS ta) := by
  refine ⟨fun pins s σ H R I h => ?_⟩
  refine Call_ (ld_blt I hg hm PyProof.Rows.boot_zip (PyProof.Rows.callWith_type1 (thn (ha.run pos pins s σ H _ I h) fun us s1 h1 => ?_) hs hpl))
  obtain ⟨vs, H1, I1, r1, x, y, rfl, q⟩ := h1
  cases r1 with
  | cons r rr =>
    cases rr with
    | cons r' rr =>
      cases rr
      obtain ⟨t, rfl⟩ := r
      obtain ⟨u, rfl⟩ := r'
      refine zip_begins2 (begins_text x t) (begins_text y u) trivial trivial fun h' hz hTI hTO j1 j2 hsz hk => wpAny_pyIter_zip hz ?_
      have I2 : Inv X pins σ H1 { s1 with heap := h' } := I1.kept (t' := s1.toks) hk
      refine ⟨s1.heap.objs.size + 4, [s1.heap.objs.size + 4, s1.heap.objs.size + 2, s1.heap.objs.size + 3, s1.heap.objs.size, s1.heap.objs.size + 1], _, _, H1, rfl, I2, turn_zs (t := t) (u := u) (apart5 s1.heap.objs.size), ⟨hz, hTI, ⟨_, _, hTO⟩, ⟨_, j1, rfl, rfl⟩, ⟨_, j2, rfl, rfl⟩⟩, fun c hc => ?_, q⟩
      have le : s1.heap.objs.size ≤ c := by
        have e' : c = s1.heap.objs.size + 4 ∨ c = s1.heap.objs.size + 2 ∨ c = s1.heap.objs.size + 3 ∨ c = s1.heap.objs.size ∨ c = s1.heap.objs.size + 1 := by simpa using hc
        rcases e' with z | z | z | z | z
        · rw [z]; exact Nat.le_add_right _ _
        · rw [z]; exact Nat.le_add_right _ _
        · rw [z]; exact Nat.le_add_right _ _
        · rw [z]; exact Nat.le_refl _
        · rw [z]; exact Nat.le_add_right _ _
      exact I1.fpOk le (I1.hok.fresh le)
/-! ### as walks -/
section
variable {K : PySem.W.Frag} {a b : Addr} {xs ys : List V} {x y : Str}
theorem walk_et : Walk (Jet K a) xs.length (fun H => SqT K H a xs) (fun i H v H' => ∃ T x, v = .ref T ∧ H T = none ∧ H' = upd H T (.tup [.int (i : Nat), x]) ∧ xs[i]? = some x) :=
  ⟨fun i _ hi q => ⟨xs, xs[i], q, by simp [hi]⟩, fun _ q => ⟨xs, q, Nat.le_refl _⟩, fun _ _ _ _ _ q ⟨T, x, e1, e2, e3, e4⟩ => ⟨T, x, e1, e2, e3, e4 xs q⟩⟩
theorem walk_ez (hl : ys.length = xs.length) : Walk (Jez K a b) xs.length (fun H => SqT K H a xs ∧ SqT K H b ys)
    (fun i H v H' => ∃ S T x y, v = .ref T ∧ H S = none ∧ upd H S (.tup [x, y]) T = none ∧ H' = upd (upd H S (.tup [x, y])) T (.tup [.int (i : Nat), .ref S]) ∧ xs[i]? = some x ∧ ys[i]? = some y) :=
  ⟨fun i _ hi q => ⟨xs, ys, xs[i], ys[i]'(by omega), q.1, q.2, by simp [hi], by simp [show i < ys.length by omega]⟩, fun _ q => ⟨xs, ys, q.1, q.2, .inl (Nat.le_refl _)⟩,
    fun _ _ _ _ _ q ⟨S, T, x, y, e1, e2, e3, e4, e5, e6⟩ => ⟨S, T, x, y, e1, e2, e3, e4, e5 xs q.1, e6 ys q.2⟩⟩
theorem walk_zt (hl : ys.length = xs.length) : Walk (RZ.ItzT K a b) xs.length (fun H => SqT K H a xs ∧ SqT K H b ys) (fun i H v H' => ∃ T x y, v = .ref T ∧ H T = none ∧ H' = upd H T (.tup [x, y]) ∧ xs[i]? = some x ∧ ys[i]? = some y) :=
  ⟨fun i _ hi q => ⟨xs, ys, xs[i], ys[i]'(by omega), q.1, q.2, by simp [hi], by simp [show i < ys.length by omega]⟩, fun _ q => ⟨xs, ys, q.1, q.2, .inl (Nat.le_refl _)⟩,
    fun _ _ _ _ _ q ⟨T, x, y, e1, e2, e3, e4, e5⟩ => ⟨T, x, y, e1, e2, e3, e4 xs q.1, e5 ys q.2⟩⟩
theorem walk_zs {n : Nat} (hn : n = min x.cps.size y.cps.size) : Walk (Jzs x y) n (fun _ => True) (fun i H v H' => ∃ T c d, v = .ref T ∧ H T = none ∧ H' = upd H T (.tup [.str ⟨#[c]⟩, .str ⟨#[d]⟩]) ∧ x.cps[i]? = some c ∧ y.cps[i]? = some d) :=
  ⟨fun i _ hi _ => ⟨by omega, by omega⟩, fun _ _ => ⟨by omega, by omega, by omega⟩, fun _ _ _ _ _ _ q => q⟩
end
end K76

set_option Elab.async false
set_option linter.all false
set_option maxRecDepth 100000
set_option maxHeartbeats 4000000
/-! k76: list(text); tuple * 1; walks of a dict comprehension. -/
namespace K76
open PySem PySem.Spec PyProof.Rows L2
section
variable {X : Cx}
theorem signs_vals {cs : List Nat} {acc : Array Value} (h : ItemsOf (SignAt (tx cs)) acc (tx cs).cps.size) : Vals (cs.map fun c => V.str (t1 c)) acc.toList := by
  rw [tx_cps] at h
  obtain ⟨h1, h2⟩ := h
  have key : ∀ (cs : List Nat) (us : List Value), us.length = cs.length → (∀ (i : Nat) v, us[i]? = some v → ∃ c u, cs[i]? = some c ∧ v = .str (t1 c) u) → Vals (cs.map fun c => V.str (t1 c)) us := by
    intro cs
    induction cs with
    | nil => intro us hl _; rw [List.eq_nil_of_length_eq_zero hl]; exact .nil
    | cons c r ih =>
      intro us hl hh
      cases us with
      | nil => simp at hl
      | cons v vs =>
        obtain ⟨c', u, e1, e2⟩ := hh 0 v rfl
        cases (Option.some.inj e1)
        exact .cons ⟨u, e2⟩ (ih vs (by simpa using hl) fun i w e => hh (i + 1) w (by simpa using e))
  refine key cs _ (by rw [Array.length_toList]; exact h1) fun i v e => ?_
  obtain ⟨c, u, hc, hv⟩ := h2 i v (by rw [← Array.getElem?_toList]; exact e)
  rw [tx_at] at hc
  exact ⟨c, u, hc, hv⟩
theorem cr_ltx (hc : X.calm = true) : CallR X (.type "list") (fun xs H Q => ∃ cs, xs = [.str (tx cs)] ∧ cs.length ≤ 1000 ∧ ∀ l, H l = none → Q (.ref l) (upd H l (.lst (cs.map fun c => V.str (t1 c))))) := by
  intro pins s σ H xs us Q I r h
  obtain ⟨cs, rfl, hl, q⟩ := h
  obtain ⟨u, rfl, ru⟩ := vals1 r
  obtain ⟨t, rfl⟩ := ru
  have hz : cs.length ≤ sizeLine := by rw [sizeLine_eq]; omega
  refine call_list_str (hn := by rw [tx_cps]; exact hz) (I.ok.hd hc) (tx cs) t fun h' tk acc c' hk hD hacc => ?_
  refine ⟨.ref s.heap.objs.size, _, I.laid (t' := tk) (o := .lst (cs.map fun c => V.str (t1 c))) hk (Nat.le_refl _) ⟨by rw [List.length_map]; exact hz, acc.toList, c', signs_vals hacc, by simpa using hD⟩, rfl, q _ (I.hok.fresh (Nat.le_refl _))⟩
theorem tup_once (l : Addr) (its : Array Value) (n : Nat) (dd : Option Addr) (sl : Array (Option Value)) (u : Tok) : Meets (Builtin.«tuple.__mul__» ⟨[.ref l, .int 1 u], []⟩) (fun _ R s =>
      s.heap.get? l = some { cls := .type "tuple", dict := dd, data := .seq its n, slots := sl } ∧ R (.ok (.ret (.ref l))) s) :=
  .of_wp fun prog w A R s h => by
    obtain ⟨hp, g, d, tk, os⟩ := s
    obtain ⟨hl, h⟩ := h
    have f1 := AutoSeq1.idx_int
    have c1 : (its.isEmpty || (1 : Int) == 1) = true := by simp
    wp_walk using wpAny_loadPart' hl
    repeat (first
      | (refine wpAny_ite_true (decide_eq_true c1) ?_; wp_walk using wpAny_loadPart' hl)
      | (split; wp_walk using wpAny_loadPart' hl))
    all_goals first | exact ⟨_, rfl, h⟩ | exact h
/-- t * 1 is t -/
theorem op_rep1 : OpR X (binaryOp .Mult) (fun x y H Q => ∃ l xs, x = .ref l ∧ y = .int 1 ∧ SqT X.K H l xs ∧ Q (.ref l) H) := by
  intro pins s σ H x y v u Q I rx ry h
  obtain ⟨l, xs, rfl, rfl, hT, q⟩ := h
  cases rx
  obtain ⟨t, rfl⟩ := ry
  obtain ⟨its, r, ⟨⟨cls, dd, data, sl⟩, ho, hc, n, hd⟩, hs⟩ := I.tuple hT
  simp only at hc hd
  subst hc hd
  exact wpAny_binaryOp_repeat_ref (T := "tuple") (U := "int") (by decide) ⟨_, ho, rfl⟩ (fun s' => typeIs_int s' 1 t) noFill_tuple_mul F.fills_int_mul F.slot_int_rmul repeat_tuple F.slot_int_index.lookup
    (call_meets F.slot_int_rmul (typeIs_int s 1 t) F.entry_int_rmul (F.args_int_rmul_2 _ _) (int_rmul_tuple 1 t l its.toArray n dd sl)
      ⟨ho, rfl, ⟨_, ho, rfl⟩, call_meets F.slot_tuple_mul ⟨_, ho, rfl⟩ F.entry_tuple_mul (F.args_tuple_mul_2 _ _) (tup_once l its.toArray n dd sl t) ⟨ho, ⟨.ref l, H, I, rfl, q⟩⟩⟩)
/-- t * k, k from 1 on -/
theorem op_rep : OpR X (binaryOp .Mult) (fun x y H Q => ∃ l k xs, x = .ref l ∧ y = .int k ∧ SqT X.K H l xs ∧ xs ≠ [] ∧ 1 ≤ k ∧ k ≤ 1000 ∧ xs.length ≤ 1000 ∧ (k = 1 → Q (.ref l) H) ∧ (2 ≤ k → ∀ p, H p = none → Q (.ref p) (upd H p (.tup (List.replicate k.toNat xs).flatten)))) := by
  intro pins s σ H x y v u Q I rx ry h
  obtain ⟨l, k, xs, rfl, rfl, hT, hne, h1, h2, h3, q1, q2⟩ := h
  by_cases e : k = 1
  · subst e
    exact op_rep1 pins s σ H _ _ v u Q I rx ry ⟨l, xs, rfl, rfl, hT, q1 rfl⟩
  · exact op_repT pins s σ H _ _ v u Q I rx ry ⟨l, k, xs, rfl, rfl, hT, hne, by omega, h2, h3, q2 (by omega)⟩
end
/-! ### walks of a dict comprehension -/
section
variable {J J1 : It} {n m : Nat} {G G1 : Hp → Prop} {Y Y1 : Nat → Hp → V → Hp → Prop}
theorem in_it (w : Walk J1 m G1 Y1) {gj : TG} {tk tv : TE} {vj : List Nat} {σ2 : L2.St} {D : Addr} {Nx : Hp → Prop} {H4 : Hp} (Pv : Nat → Hp → Prop) (h0 : Pv 0 H4) (hG : ∀ j H, j ≤ m → Pv j H → G1 H)
    (hs : ∀ j x H H', j < m → Pv j H → Y1 j H x H' → gj x (wipe σ2 vj) H' fun σ3 H5 => wipe σ3 vj = wipe σ2 vj ∧ tk σ3 H5 fun y H6 => tv σ3 H6 fun z H7 => ∃ kvs kk, y = kV kk ∧ H7 D = some (.dK kvs) ∧ kvs.length < sizeLine ∧ Pv (j + 1) (upd H7 D (.dK (putK kvs kk z))))
    (hd : ∀ H, Pv m H → Nx H) :
    ∃ W1 : Nat → Nat → Hp → Prop, (∃ k, W1 0 k H4) ∧ ∀ j k H, W1 j k H →
      (J1.stop j H ∧ Nx H) ∨ (J1.go j H ∧ ∃ Nx1 : Hp → Prop, (∀ H', Nx1 H' → ∃ k', k' < k ∧ W1 (j + 1) k' H') ∧ ∀ x H', J1.yld j H x H' → gj x (wipe σ2 vj) H' fun σ3 H5 => wipe σ3 vj = wipe σ2 vj ∧
        tk σ3 H5 fun y H6 => tv σ3 H6 fun z H7 => ∃ kvs kk, y = kV kk ∧ H7 D = some (.dK kvs) ∧ kvs.length < sizeLine ∧ Nx1 (upd H7 D (.dK (putK kvs kk z)))) := by
  refine ⟨fun j k H => k = m - j ∧ j ≤ m ∧ Pv j H, ⟨m, by simp, Nat.zero_le _, h0⟩, ?_⟩
  rintro j k H ⟨rfl, hj, p⟩
  have q := hG j H hj p
  by_cases lt : j < m
  · exact .inr ⟨w.goes j H lt q, Pv (j + 1), fun H' p' => ⟨m - (j + 1), by omega, rfl, lt, p'⟩, fun x H' y => hs j x H H' lt p (w.yields j H x H' lt q y)⟩
  · obtain rfl : j = m := by omega
    exact .inl ⟨w.stops H q, hd H p⟩
theorem dc2_it (w : Walk J n G Y) {g : TG} {wj : TI} {gj : TG} {tk tv : TE} {vs vj : List Nat} {σ : L2.St} {H1 : Hp} {D : Addr} {Qd : Hp → Prop} (Pv : Nat → Hp → Prop) (h0 : Pv 0 (upd H1 D (.dK []))) (hG : ∀ i H, i ≤ n → Pv i H → G H)
    (hs : ∀ i x H H', i < n → Pv i H → Y i H x H' → g x (wipe σ vs) H' fun σ2 H2 => wipe σ2 vs = wipe σ vs ∧ wj σ2 H2 fun J1 H4 => ∃ W1 : Nat → Nat → Hp → Prop, (∃ m, W1 0 m H4) ∧ ∀ j k H, W1 j k H →
      (J1.stop j H ∧ Pv (i + 1) H) ∨ (J1.go j H ∧ ∃ Nx1 : Hp → Prop, (∀ H', Nx1 H' → ∃ k', k' < k ∧ W1 (j + 1) k' H') ∧ ∀ x H', J1.yld j H x H' → gj x (wipe σ2 vj) H' fun σ3 H5 => wipe σ3 vj = wipe σ2 vj ∧
        tk σ3 H5 fun y H6 => tv σ3 H6 fun z H7 => ∃ kvs kk, y = kV kk ∧ H7 D = some (.dK kvs) ∧ kvs.length < sizeLine ∧ Nx1 (upd H7 D (.dK (putK kvs kk z))))) (hd : ∀ H, Pv n H → Qd H) :
    ∃ W : Nat → Nat → Hp → Prop, (∃ m, W 0 m (upd H1 D (.dK []))) ∧ ∀ i m H, W i m H →
      (J.stop i H ∧ Qd H) ∨ (J.go i H ∧ ∃ Nx : Hp → Prop, (∀ H', Nx H' → ∃ m', m' < m ∧ W (i + 1) m' H') ∧ ∀ x H', J.yld i H x H' → g x (wipe σ vs) H' fun σ2 H2 => wipe σ2 vs = wipe σ vs ∧
        wj σ2 H2 fun J1 H4 => ∃ W1 : Nat → Nat → Hp → Prop, (∃ m, W1 0 m H4) ∧ ∀ j k H, W1 j k H →
          (J1.stop j H ∧ Nx H) ∨ (J1.go j H ∧ ∃ Nx1 : Hp → Prop, (∀ H', Nx1 H' → ∃ k', k' < k ∧ W1 (j + 1) k' H') ∧ ∀ x H', J1.yld j H x H' → gj x (wipe σ2 vj) H' fun σ3 H5 => wipe σ3 vj = wipe σ2 vj ∧
            tk σ3 H5 fun y H6 => tv σ3 H6 fun z H7 => ∃ kvs kk, y = kV kk ∧ H7 D = some (.dK kvs) ∧ kvs.length < sizeLine ∧ Nx1 (upd H7 D (.dK (putK kvs kk z))))) := by
  refine ⟨fun i m H => m = n - i ∧ i ≤ n ∧ Pv i H, ⟨n, by simp, Nat.zero_le _, h0⟩, ?_⟩
  rintro i m H ⟨rfl, hi, p⟩
  have q := hG i H hi p
  by_cases lt : i < n
  · exact .inr ⟨w.goes i H lt q, Pv (i + 1), fun H' p' => ⟨n - (i + 1), by omega, rfl, lt, p'⟩, fun x H' y => hs i x H H' lt p (w.yields i H x H' lt q y)⟩
  · obtain rfl : i = n := by omega
    exact .inl ⟨w.stops H q, hd H p⟩
end
end K76

set_option Elab.async false
set_option linter.all false
set_option maxRecDepth 100000
/-! k76: the program's lanes. -/
namespace K76
open PySem PySem.Spec PyProof.Rows L2
def topS (i : Nat) : Stmt := PySem.Challenge.pw_keylanes_k76_whole_houses.main.body.getD i (.Pass ⟨0, 0, 0, 0⟩)
abbrev sInt : Stmt := topS 8
abbrev sIn : Stmt := topS 9
abbrev sSet : Stmt := topS 10
abbrev sNeedL : Stmt := topS 11
abbrev sSides : Stmt := topS 12
abbrev sLR : Stmt := topS 13
abbrev sRR : Stmt := topS 14
abbrev sLD : Stmt := topS 15
abbrev sRD : Stmt := topS 16
theorem scInt : FnScope ["value"] ["value"] (defScope sInt) := ⟨rfl, rfl, rfl, by decide +kernel, rfl, by decide +kernel, by decide +kernel⟩
theorem scIn : FnScope ["value", "least", "most"] ["value", "least", "most"] (defScope sIn) := ⟨rfl, rfl, rfl, by decide +kernel, rfl, by decide +kernel, by decide +kernel⟩
theorem scSides : FnScope ["lane"] ["lane"] (defScope sSides) := ⟨rfl, rfl, rfl, by decide +kernel, rfl, by decide +kernel, by decide +kernel⟩
theorem scLR : FnScope ["lane", "x"] ["lane", "x"] (defScope sLR) := ⟨rfl, rfl, rfl, by decide +kernel, rfl, by decide +kernel, by decide +kernel⟩
theorem scRR : FnScope ["lane", "y"] ["lane", "y"] (defScope sRR) := ⟨rfl, rfl, rfl, by decide +kernel, rfl, by decide +kernel, by decide +kernel⟩
theorem scLD : FnScope ["lane", "x"] ["lane", "x"] (defScope sLD) := ⟨rfl, rfl, rfl, by decide +kernel, rfl, by decide +kernel, by decide +kernel⟩
theorem scRD : FnScope ["lane", "y"] ["lane", "y"] (defScope sRD) := ⟨rfl, rfl, rfl, by decide +kernel, rfl, by decide +kernel, by decide +kernel⟩
/-- a def of the top: where it stands, how it is called -/
structure Df (K : PySem.W.Frag) (mg : Str → Option Value) (nm : Str) (st : Stmt) (ps : List Str) (f : Addr) (fd : FuncData) : Prop where
  F : Fun K nm nm st f fd
  b : Binds K fd ps []
  g : mg nm = some (.ref f)
/-- the built-in names that the program and the law use -/
structure Bt (mg : Str → Option Value) : Prop where
  isi : mg "isinstance" = none
  int : mg "int" = none
  bool : mg "bool" = none
  str : mg "str" = none
  all : mg "all" = none
  zip : mg "zip" = none
  tuple : mg "tuple" = none
  len : mg "len" = none
  enum : mg "enumerate" = none
  sorted : mg "sorted" = none
  range : mg "range" = none
  list : mg "list" = none
  set : mg "set" = none
  sum : mg "sum" = none
/-! ### what stands -/
def LaneAt (H : Hp) (p : Addr) (l : Lane) : Prop := ∃ t, H p = some (.tup [.int (l.b : Nat), .ref t]) ∧ H t = some (.tup (l.th.map fun cs => V.str (tx cs)))
def HouseAt (H : Hp) (h : Addr) (hs : List Lane) : Prop := ∃ ps : List Addr, H h = some (.tup (ps.map V.ref)) ∧ Paired (LaneAt H) ps hs
theorem KeepT.lane {H H' : Hp} (k : KeepT H H') {p : Addr} {l : Lane} (h : LaneAt H p l) : LaneAt H' p l := by
  obtain ⟨t, a, b⟩ := h
  exact ⟨t, k _ _ a, k _ _ b⟩
theorem KeepT.house {H H' : Hp} (k : KeepT H H') {h : Addr} {hs : List Lane} (q : HouseAt H h hs) : HouseAt H' h hs := by
  obtain ⟨ps, e, r⟩ := q
  exact ⟨ps, k _ _ e, Paired.mapP r fun _ _ z => k.lane z⟩
theorem keep_same {H H' : Hp} (h : Same H H') : KeepT H H' := fun b xs e => h b _ e
theorem same_new {H : Hp} {p : Addr} {o : HO} (h : H p = none) : Same H (upd H p o) := fun b x e => by
  rw [upd_ne (fun z => by rw [z, h] at e; cases e)]
  exact e
theorem lane_at {l : Lane} {i : Nat} (h : i < l.th.length) : (l.th.map fun cs => V.str (tx cs))[i]? = some (.str (tx (l.at i))) := by
  unfold Lane.at
  rw [List.getElem?_map, List.getD_eq_getElem?_getD, List.getElem?_eq_getElem h]
  rfl
section
variable {P : Program} {w : World} {K : PySem.W.Frag} {mg : Str → Option Value} {base : Heap}
/-! ### is_int, is_in -/
def spInt : Sp := fun vs H Q _ => ∃ i, vs = [.int i] ∧ Q (.bl true) H
theorem ok_int {f : Addr} {fd : FuncData} {k : Nat} (D : Df K mg "is_int" sInt ["value"] f fd) (B : Bt mg) : FnOk P w K mg base CX0 (k + 1) f fd ["value"] spInt := by
  refine D.F.ok scInt (fun vs H Q E h => ?_) (fun cdv A outer s H vs Q E hr h => ?_)
  · obtain ⟨i, rfl, _⟩ := h
    rfl
  · obtain ⟨i, rfl, q⟩ := h
    refine ⟨_, pss_one (ps_ret (pe_and (pe_callB call_isi (by rfl) B.isi (by decide +kernel) (pa_cons (pv 0) (pa_cons (pe_bltn (v := .ty "int") (by rfl) B.int (by decide +kernel) rfl) pa_nil)))
      (pe_one (pe_not (pe_callB call_isi (by rfl) B.isi (by decide +kernel) (pa_cons (pv 0) (pa_cons (pe_bltn (v := .ty "bool") (by rfl) B.bool (by decide +kernel) rfl) pa_nil))))))), ?_⟩
    refine ⟨_, rfl, _, _, _, _, true, rfl, .ty "int", .base (.int i), kit_ty (by decide +kernel), true, rfl, ?_⟩
    rw [if_pos rfl]
    exact ⟨_, rfl, _, _, _, _, false, rfl, .ty "bool", .base (.int i), kit_ty (by decide +kernel), false, rfl, q⟩
def spIn : Sp := fun vs H Q _ => ∃ i a b, vs = [.int i, .int a, .int b] ∧ a ≤ i ∧ i ≤ b ∧ Q (.bl true) H
theorem ok_in {f fI : Addr} {fd fdI : FuncData} (D : Df K mg "is_in" sIn ["value", "least", "most"] f fd) (DI : Df K mg "is_int" sInt ["value"] fI fdI) (B : Bt mg) : FnOk P w K mg base CX0 2 f fd ["value", "least", "most"] spIn := by
  have GI : FnOk P w K mg base CX0 1 fI fdI ["value"] spInt := ok_int DI B
  refine D.F.ok scIn (fun vs H Q E h => ?_) (fun cdv A outer s H vs Q E hr h => ?_)
  · obtain ⟨i, a, b, rfl, _⟩ := h
    rfl
  · obtain ⟨i, a, b, rfl, h1, h2, q⟩ := h
    refine ⟨_, pss_one (ps_ret (pe_and (pe_call GI hr (by rfl) DI.g DI.F.kp DI.b .nil pass0 (pa_cons (pv 0) pa_nil)) (pe_one (pe_chain op_le op_le (pv 1) (pv 0) (pv 2))))), ?_⟩
    refine ⟨_, rfl, i, rfl, true, rfl, ?_⟩
    rw [if_pos rfl]
    refine ⟨_, rfl, _, rfl, _, _, rfl, rfl, _, rfl, ?_⟩
    rw [if_pos (decide_eq_true h1)]
    refine ⟨_, rfl, _, _, rfl, rfl, ?_⟩
    show Q (.bl (decide (i ≤ b))) H
    rw [decide_eq_true h2]
    exact q
/-! ### sides_of, rooms, doors -/
def spSides : Sp := fun vs H Q _ => ∃ p l, vs = [.ref p] ∧ LaneAt H p l ∧ LaneOk l ∧ ∀ t, H t = none → Q (.ref t) (upd H t (.tup [.int (l.left : Nat), .int (l.right : Nat)]))
theorem lane_right {l : Lane} (o : LaneOk l) : ((l.th.length : Nat) : Int) / 2 - (l.b : Nat) = (l.right : Nat) := by
  have := o.beg
  unfold Lane.right
  omega
theorem ok_sides {f : Addr} {fd : FuncData} {k : Nat} (D : Df K mg "sides_of" sSides ["lane"] f fd) (B : Bt mg) : FnOk P w K mg base CX0 (k + 1) f fd ["lane"] spSides := by
  refine D.F.ok scSides (fun vs H Q E h => ?_) (fun cdv A outer s H vs Q E hr h => ?_)
  · obtain ⟨p, l, rfl, _⟩ := h
    rfl
  · obtain ⟨p, l, rfl, ⟨t, e1, e2⟩, o, q⟩ := h
    refine ⟨_, pss_one (ps_ret (pe_tup (pa_cons (pe_ix ix_tup (pv 0) pe_int (fun _ _ => rfl)) (pa_cons (pe_op op_sub (pe_op op_fdiv (pe_callB call_len_seq (by rfl) B.len PySem.boot_len (pa_cons (pe_ix ix_tup (pv 0) pe_int (fun _ _ => rfl)) pa_nil)) pe_int) (pe_ix ix_tup (pv 0) pe_int (fun _ _ => rfl))) pa_nil)))), ?_⟩
    have s1 : SqT K H p [.int (l.b : Nat), .ref t] := .inl (.inl e1)
    have s2 : SqT K H t (l.th.map fun cs => V.str (tx cs)) := .inl (.inl e2)
    refine ⟨_, rfl, p, _, 0, _, rfl, rfl, s1, atI_nat (j := 0) rfl, _, rfl, p, _, 1, _, rfl, rfl, s1, atI_nat (j := 1) rfl, t, _, rfl, .inr s2, _, 2, rfl, rfl, ⟨by decide, by decide⟩, _, rfl, p, _, 0, _, rfl, rfl, s1, atI_nat (j := 0) rfl, _, _, rfl, rfl, ?_⟩
    refine ⟨(by show 2 ≤ sizeLine; decide), fun r nr => ?_⟩
    have e : V.int ((((l.th.map fun cs => V.str (tx cs)).length : Nat) : Int) / 2 - (l.b : Nat)) = .int (l.right : Nat) := by
      rw [List.length_map, lane_right o]
    have z := q r nr
    rw [← e] at z
    exact z
end
end K76

set_option Elab.async false
set_option linter.all false
set_option maxRecDepth 100000
/-! k76: rooms, doors, what is had. -/
namespace K76
open PySem PySem.Spec PyProof.Rows L2
section
variable {P : Program} {w : World} {K : PySem.W.Frag} {mg : Str → Option Value} {base : Heap}
def spPart (C : Lane → Nat → Prop) (ix : Lane → Nat → Nat) : Sp := fun vs H Q _ => ∃ p l, ∃ x : Nat, vs = [.ref p, .int x] ∧ LaneAt H p l ∧ C l x ∧ ix l x < l.th.length ∧ Q (.str (tx (l.at (ix l x)))) H
theorem mul2 {a b : Int} (h : -2 ^ 64 ≤ a ∧ a ≤ 2 ^ 64) : True := trivial
abbrev spLR : Sp := spPart (fun l x => x ≤ l.b) fun l x => 2 * (l.b - x)
abbrev spRR : Sp := spPart (fun _ _ => True) fun l y => 2 * (l.b + y)
abbrev spLD : Sp := spPart (fun l x => x < l.b) fun l x => 2 * (l.b - x) - 1
abbrev spRD : Sp := spPart (fun _ _ => True) fun l y => 2 * (l.b + y) + 1
theorem ok_LR {f : Addr} {fd : FuncData} {k : Nat} (D : Df K mg "left_room" sLR ["lane", "x"] f fd) : FnOk P w K mg base CX0 (k + 1) f fd ["lane", "x"] spLR := by
  refine D.F.ok scLR (fun vs H Q E h => ?_) (fun cdv A outer s H vs Q E hr h => ?_)
  · obtain ⟨p, l, x, rfl, _⟩ := h
    rfl
  · obtain ⟨p, l, x, rfl, ⟨t, e1, e2⟩, c, lt, q⟩ := h
    refine ⟨_, pss_one (ps_ret (pe_ix ix_tup (pe_ix ix_tup (pv 0) pe_int (fun _ _ => rfl)) (pe_op op_mul pe_int (pe_op op_sub (pe_ix ix_tup (pv 0) pe_int (fun _ _ => rfl)) (pv 1))) (fun _ _ => rfl))), ?_⟩
    have s1 : SqT K H p [.int (l.b : Nat), .ref t] := .inl (.inl e1)
    have s2 : SqT K H t (l.th.map fun cs => V.str (tx cs)) := .inl (.inl e2)
    refine ⟨_, rfl, p, _, 1, _, rfl, rfl, s1, atI_nat (j := 1) rfl, _, rfl, p, _, 0, _, rfl, rfl, s1, atI_nat (j := 0) rfl, _, rfl, _, _, rfl, rfl, _, _, rfl, rfl, .inl ⟨by decide, by decide⟩, t, _, _, _, rfl, rfl, s2, ?_, q⟩
    have e : (2 : Int) * (((l.b : Nat) : Int) - (x : Nat)) = ((2 * (l.b - x) : Nat) : Int) := by
      have : x ≤ l.b := c
      omega
    rw [e]
    exact atI_nat (lane_at lt)
theorem ok_RR {f : Addr} {fd : FuncData} {k : Nat} (D : Df K mg "right_room" sRR ["lane", "y"] f fd) : FnOk P w K mg base CX0 (k + 1) f fd ["lane", "y"] spRR := by
  refine D.F.ok scRR (fun vs H Q E h => ?_) (fun cdv A outer s H vs Q E hr h => ?_)
  · obtain ⟨p, l, x, rfl, _⟩ := h
    rfl
  · obtain ⟨p, l, x, rfl, ⟨t, e1, e2⟩, c, lt, q⟩ := h
    refine ⟨_, pss_one (ps_ret (pe_ix ix_tup (pe_ix ix_tup (pv 0) pe_int (fun _ _ => rfl)) (pe_op op_mul pe_int (pe_op op_add (pe_ix ix_tup (pv 0) pe_int (fun _ _ => rfl)) (pv 1))) (fun _ _ => rfl))), ?_⟩
    have s1 : SqT K H p [.int (l.b : Nat), .ref t] := .inl (.inl e1)
    have s2 : SqT K H t (l.th.map fun cs => V.str (tx cs)) := .inl (.inl e2)
    refine ⟨_, rfl, p, _, 1, _, rfl, rfl, s1, atI_nat (j := 1) rfl, _, rfl, p, _, 0, _, rfl, rfl, s1, atI_nat (j := 0) rfl, _, rfl, _, _, rfl, rfl, _, _, rfl, rfl, .inl ⟨by decide, by decide⟩, t, _, _, _, rfl, rfl, s2, ?_, q⟩
    have e : (2 : Int) * (((l.b : Nat) : Int) + (x : Nat)) = ((2 * (l.b + x) : Nat) : Int) := by omega
    rw [e]
    exact atI_nat (lane_at lt)
theorem ok_LD {f : Addr} {fd : FuncData} {k : Nat} (D : Df K mg "left_door" sLD ["lane", "x"] f fd) : FnOk P w K mg base CX0 (k + 1) f fd ["lane", "x"] spLD := by
  refine D.F.ok scLD (fun vs H Q E h => ?_) (fun cdv A outer s H vs Q E hr h => ?_)
  · obtain ⟨p, l, x, rfl, _⟩ := h
    rfl
  · obtain ⟨p, l, x, rfl, ⟨t, e1, e2⟩, c, lt, q⟩ := h
    refine ⟨_, pss_one (ps_ret (pe_ix ix_tup (pe_ix ix_tup (pv 0) pe_int (fun _ _ => rfl)) (pe_op op_sub (pe_op op_mul pe_int (pe_op op_sub (pe_ix ix_tup (pv 0) pe_int (fun _ _ => rfl)) (pv 1))) pe_int) (fun _ _ => rfl))), ?_⟩
    have s1 : SqT K H p [.int (l.b : Nat), .ref t] := .inl (.inl e1)
    have s2 : SqT K H t (l.th.map fun cs => V.str (tx cs)) := .inl (.inl e2)
    refine ⟨_, rfl, p, _, 1, _, rfl, rfl, s1, atI_nat (j := 1) rfl, _, rfl, p, _, 0, _, rfl, rfl, s1, atI_nat (j := 0) rfl, _, rfl, _, _, rfl, rfl, _, _, rfl, rfl, .inl ⟨by decide, by decide⟩, _, _, rfl, rfl, t, _, _, _, rfl, rfl, s2, ?_, q⟩
    have e : (2 : Int) * (((l.b : Nat) : Int) - (x : Nat)) - 1 = ((2 * (l.b - x) - 1 : Nat) : Int) := by
      have : x < l.b := c
      omega
    rw [e]
    exact atI_nat (lane_at lt)
theorem ok_RD {f : Addr} {fd : FuncData} {k : Nat} (D : Df K mg "right_door" sRD ["lane", "y"] f fd) : FnOk P w K mg base CX0 (k + 1) f fd ["lane", "y"] spRD := by
  refine D.F.ok scRD (fun vs H Q E h => ?_) (fun cdv A outer s H vs Q E hr h => ?_)
  · obtain ⟨p, l, x, rfl, _⟩ := h
    rfl
  · obtain ⟨p, l, x, rfl, ⟨t, e1, e2⟩, c, lt, q⟩ := h
    refine ⟨_, pss_one (ps_ret (pe_ix ix_tup (pe_ix ix_tup (pv 0) pe_int (fun _ _ => rfl)) (pe_op op_add (pe_op op_mul pe_int (pe_op op_add (pe_ix ix_tup (pv 0) pe_int (fun _ _ => rfl)) (pv 1))) pe_int) (fun _ _ => rfl))), ?_⟩
    have s1 : SqT K H p [.int (l.b : Nat), .ref t] := .inl (.inl e1)
    have s2 : SqT K H t (l.th.map fun cs => V.str (tx cs)) := .inl (.inl e2)
    refine ⟨_, rfl, p, _, 1, _, rfl, rfl, s1, atI_nat (j := 1) rfl, _, rfl, p, _, 0, _, rfl, rfl, s1, atI_nat (j := 0) rfl, _, rfl, _, _, rfl, rfl, _, _, rfl, rfl, .inl ⟨by decide, by decide⟩, _, _, rfl, rfl, t, _, _, _, rfl, rfl, s2, ?_, q⟩
    have e : (2 : Int) * (((l.b : Nat) : Int) + (x : Nat)) + 1 = ((2 * (l.b + x) + 1 : Nat) : Int) := by omega
    rw [e]
    exact atI_nat (lane_at lt)
end
end K76

set_option Elab.async false
set_option linter.all false
set_option maxRecDepth 100000
/-! k76: is_set, need_lane, need_house. -/
namespace K76
open PySem PySem.Spec PyProof.Rows L2
/-! ### a comprehension that keeps what stands -/
def LcP (H1 : Hp) (D : Addr) (f : Nat → V) (i : Nat) (H : Hp) : Prop := Same H1 H ∧ H D = some (.lst ((List.range i).map f))
theorem lcp_0 {H1 : Hp} {D : Addr} {f : Nat → V} (nD : H1 D = none) : LcP H1 D f 0 (upd H1 D (.lst [])) := ⟨same_new nD, upd_same⟩
theorem lcp_step {H1 H H4 : Hp} {D : Addr} {f : Nat → V} {i : Nat} {y : V} (nD : H1 D = none) (p : LcP H1 D f i H) (s : Same H H4) (e : y = f i) (hi : i < 1000) :
    ∃ acc, H4 D = some (.lst acc) ∧ acc.length < sizeLine ∧ LcP H1 D f (i + 1) (upd H4 D (.lst (acc ++ [y]))) := by
  refine ⟨_, s _ _ p.2, ?_, fun b x hb => ?_, ?_⟩
  · rw [List.length_map, List.length_range, sizeLine_eq]
    omega
  · rw [upd_ne (fun z => by rw [z, nD] at hb; cases hb)]
    exact s _ _ (p.1 _ _ hb)
  · rw [upd_same, List.range_succ, List.map_append, e]
    rfl
theorem bools_all (n : Nat) (b : Nat → Bool) : ((List.range n).map fun i => V.bl (b i)) = ((List.range n).map b).map V.bl := by
  rw [List.map_map]
  rfl
theorem all_true (n : Nat) : (((List.range n).map fun _ => true).all id) = true := by
  rw [List.all_map]
  exact List.all_eq_true.mpr fun _ _ => rfl
theorem cut_from1 (cs : List Nat) : cutS (tx cs) (some 1) none = tx (cs.drop 1) := by
  unfold cutS
  rw [tx_len, HT.sIx_none, show HT.sIx cs.length 0 (some 1) = min 1 cs.length from HT.sIx_nat cs.length 0 1]
  show (⟨((cs.drop (min 1 cs.length)).take (cs.length - min 1 cs.length)).toArray⟩ : Str) = ⟨(cs.drop 1).toArray⟩
  cases cs with
  | nil => rfl
  | cons c r =>
    rw [show min 1 (c :: r).length = 1 by rw [List.length_cons]; omega, List.take_of_length_le (by rw [List.length_drop]; omega)]
def kinds : List Nat := [97, 98, 99, 100, 101, 102, 103, 104, 105, 106, 107, 108]
theorem mem_kinds {c : Nat} (h : 97 ≤ c ∧ c ≤ 108) : c ∈ kinds := by
  obtain ⟨h1, h2⟩ := h
  have : c = 97 ∨ c = 98 ∨ c = 99 ∨ c = 100 ∨ c = 101 ∨ c = 102 ∨ c = 103 ∨ c = 104 ∨ c = 105 ∨ c = 106 ∨ c = 107 ∨ c = 108 := by omega
  unfold kinds
  simpa using this
theorem set_few {cs : List Nat} (h : SetOk cs) : cs.length ≤ 12 := by
  refine nodup_le cs kinds (List.Pairwise.imp (fun {a b} h => Nat.ne_of_lt h) h.1) fun c hc => mem_kinds (h.2 c hc)
section
variable {P : Program} {w : World} {K : PySem.W.Frag} {mg : Str → Option Value} {base : Heap}
theorem scSet : FnScope ["value", "sign", "one", "other"] ["value"] (defScope sSet) := ⟨rfl, rfl, rfl, by decide +kernel, rfl, by decide +kernel, by decide +kernel⟩
def spSet : Sp := fun vs H Q _ => ∃ cs, vs = [.str (tx cs)] ∧ SetOk cs ∧ ∀ H', Same H H' → Q (.bl true) H'
theorem ok_set {f : Addr} {fd : FuncData} {k : Nat} (D : Df K mg "is_set" sSet ["value"] f fd) (B : Bt mg) {tk : Tok} (gk : mg "KINDS" = some (.str (tx kinds) tk)) : FnOk P w K mg base CX0 (k + 1) f fd ["value"] spSet := by
  refine D.F.ok scSet (fun vs H Q E h => ?_) (fun cdv A outer s H vs Q E hr h => ?_)
  · obtain ⟨cs, rfl, _⟩ := h
    rfl
  · obtain ⟨cs, rfl, o, q⟩ := h
    have few := set_few o
    have hz : (tx cs).length ≤ sizeLine := by rw [tx_len, sizeLine_eq]; omega
    refine ⟨_, pss_cons (ps_if (pw_or (pt_not (pt_val (pe_callB call_isi (by rfl) B.isi (by decide +kernel) (pa_cons (pv 0) (pa_cons (pe_bltn (v := .ty "str") (by rfl) B.str (by decide +kernel) rfl) pa_nil)))))
        (pw_or1 (pt_not (pt_val (pe_callB (cr_all rfl) (by rfl) B.all (by decide +kernel) (pa_cons
          (pe_lc (own := [("sign", 1)]) (g := gName 1) (tt := tYes) rfl scSet.nd (pi_str (pv 0)) (blkOk_by (N := ["value", "sign", "one", "other"]) (sc := defScope sSet) (by decide +kernel))
            (fun _ _ _ _ _ => pg_name (i := 1) scSet.nd rfl (Or.inl rfl)) (fun _ _ _ _ _ => pts_nil) (fun _ _ _ _ _ => pe_cmpR op_in_sign (pv 1) (pe_glob (v := .str (tx kinds)) (by rfl) gk ⟨tk, rfl⟩) (by rfl))) pa_nil)))))).pt (pss_one (ps_ret pe_bl)) pss_nil)
      (pss_one (ps_ret (pe_callB (cr_all rfl) (by rfl) B.all (by decide +kernel) (pa_cons
        (pe_lc (own := [("one", 2), ("other", 3)]) (g := gTup K 2 (gCons (gName 2) (gCons (gName 3) gNil))) (tt := tYes) rfl scSet.nd (pi_zips (by rfl) B.zip (pa_cons (pv 0) (pa_cons (pe_slice sl_str (pv 0) (po_some pe_int) po_none) pa_nil))) (blkOk_by (N := ["value", "sign", "one", "other"]) (sc := defScope sSet) (by decide +kernel))
          (fun _ _ _ _ _ => pg_tup rfl (pgs_cons (pg_name (i := 2) scSet.nd rfl (Or.inl rfl)) (pgs_cons (pg_name (i := 3) scSet.nd rfl (Or.inl rfl)) pgs_nil))) (fun _ _ _ _ _ => pts_nil) (fun _ _ _ _ _ => pe_cmpR op_lt_str (pv 2) (pv 3) (nomark _))) pa_nil)))), ?_⟩
    refine ⟨_, rfl, _, _, _, _, true, rfl, .ty "str", .base (.str _), kit_ty (by decide +kernel), true, rfl, iteF ?_⟩
    refine ⟨_, rfl, _, rfl, fun d nd => ?_⟩
    refine lc_it walk_str (LcP H d fun _ => .bl true) (lcp_0 nd) (fun _ _ _ _ => trivial) (fun i x Ha Hb hi p y => ?_) fun Hz p => ?_
    · obtain ⟨rfl, c, hc, rfl⟩ := y
      rw [tx_at] at hc
      rw [tx_cps] at hi
      refine ⟨rfl, _, rfl, c, _, rfl, rfl, lcp_step nd p (Same.refl _) ?_ (by omega)⟩
      show V.bl (decide (c ∈ kinds)) = _
      rw [decide_eq_true (mem_kinds (o.2 c (List.mem_of_getElem? hc)))]
    · rw [tx_cps] at p
      refine ⟨d, _, rfl, .inl (.inl (by rw [p.2, bools_all])), _, rfl, ?_⟩
      rw [all_true]
      refine iteF ?_
      refine ⟨_, rfl, _, rfl, 1, rfl, _, rfl, hz, _, _, rfl, fun d2 nd2 => ?_⟩
      rw [cut_from1]
      refine lc_it (walk_zs (n := cs.length - 1) (by rw [tx_cps, tx_cps, List.length_drop]; omega)) (LcP Hz d2 fun _ => .bl true) (lcp_0 nd2) (fun _ _ _ _ => trivial) (fun i x Ha Hb hi p2 y => ?_) fun Hy p2 => ?_
      · obtain ⟨T, c, e, rfl, nT, rfl, hc, he⟩ := y
        rw [tx_at] at hc he
        refine ⟨T, _, rfl, .inl (.inl upd_same), rfl, _, _, rfl, _, _, rfl, rfl, rfl, _, rfl, _, rfl, _, _, rfl, rfl, lcp_step nd2 p2 (same_new nT) ?_ (by omega)⟩
        show V.bl (decide ([c] < [e])) = _
        rw [List.getElem?_drop] at he
        have lt : c < e := by
          obtain ⟨l1, rfl⟩ := List.getElem?_eq_some_iff.mp hc
          obtain ⟨l2, rfl⟩ := List.getElem?_eq_some_iff.mp he
          exact List.pairwise_iff_getElem.mp o.1 _ _ l1 l2 (by omega)
        rw [decide_eq_true (show [c] < [e] by rw [List.cons_lt_cons_iff]; exact .inl lt)]
      · refine ⟨d2, _, rfl, .inl (.inl (by rw [p2.2, bools_all])), ?_⟩
        rw [all_true]
        exact q _ (p.1.trans p2.1)
end
end K76

set_option Elab.async false
set_option linter.all false
set_option maxRecDepth 100000
/-! k76: need_lane, need_house. -/
namespace K76
open PySem PySem.Spec PyProof.Rows L2
abbrev sNeedH : Stmt := topS 21
theorem scNeedL : FnScope ["value", "many", "index", "thing"] ["value"] (defScope sNeedL) := ⟨rfl, rfl, rfl, by decide +kernel, rfl, by decide +kernel, by decide +kernel⟩
theorem scNeedH : FnScope ["value", "index", "lane"] ["value"] (defScope sNeedH) := ⟨rfl, rfl, rfl, by decide +kernel, rfl, by decide +kernel, by decide +kernel⟩
section
variable {P : Program} {w : World} {K : PySem.W.Frag} {mg : Str → Option Value} {base : Heap}
def spNeedL : Sp := fun vs H Q _ => ∃ p l, vs = [.ref p] ∧ LaneAt H p l ∧ LaneOk l ∧ ∀ H', Same H H' → Q .non H'
theorem ok_needL {f fN fI fS : Addr} {fd fdN fdI fdS : FuncData} (D : Df K mg "need_lane" sNeedL ["value"] f fd) (DN : Df K mg "is_in" sIn ["value", "least", "most"] fN fdN) (DI : Df K mg "is_int" sInt ["value"] fI fdI) (DS : Df K mg "is_set" sSet ["value"] fS fdS)
    (B : Bt mg) {tk tr : Tok} (gk : mg "KINDS" = some (.str (tx kinds) tk)) (gr : mg "MOST_ROOMS" = some (.int 60 tr)) : FnOk P w K mg base CX0 3 f fd ["value"] spNeedL := by
  have GN : FnOk P w K mg base CX0 2 fN fdN ["value", "least", "most"] spIn := ok_in DN DI B
  have GS : FnOk P w K mg base CX0 2 fS fdS ["value"] spSet := ok_set DS B gk
  refine D.F.ok scNeedL (fun vs H Q E h => ?_) (fun cdv A outer s H vs Q E hr h => ?_)
  · obtain ⟨p, l, rfl, _⟩ := h
    rfl
  · obtain ⟨p, l, rfl, ⟨t, e1, e2⟩, o, q⟩ := h
    refine ⟨_, pss_cons (ps_if (pw_or (pt_not (pt_val (pe_callB call_isi (by rfl) B.isi (by decide +kernel) (pa_cons (pv 0) (pa_cons (pe_bltn (v := .ty "tuple") (by rfl) B.tuple (by decide +kernel) rfl) pa_nil)))))
        (pw_or (pt_cmpR op_ne (pe_callB call_len_seq (by rfl) B.len PySem.boot_len (pa_cons (pv 0) pa_nil)) pe_int (nomark _))
        (pw_or1 (pt_not (pt_val (pe_callB call_isi (by rfl) B.isi (by decide +kernel) (pa_cons (pe_ix ix_tup (pv 0) pe_int (fun _ _ => rfl)) (pa_cons (pe_bltn (v := .ty "tuple") (by rfl) B.tuple (by decide +kernel) rfl) pa_nil)))))))).pt pss_never pss_nil)
      (pss_cons (ps_set (i := 1) scNeedL.nd rfl (.inl rfl) (pe_callB call_len_seq (by rfl) B.len PySem.boot_len (pa_cons (pe_ix ix_tup (pv 0) pe_int (fun _ _ => rfl)) pa_nil)))
      (pss_cons (ps_if (pw_or (pt_cmpR op_eq (pe_op op_mod (pv 1) pe_int) pe_int (nomark _)) (pw_or (pt_cmpR op_ge (pv 1) (pe_op op_mul pe_int (pe_glob (v := .int 60) (by rfl) gr ⟨tr, rfl⟩)) (nomark _))
        (pw_or1 (pt_not (pt_val (pe_call GN hr (by rfl) DN.g DN.F.kp DN.b .nil pass0 (pa_cons (pe_ix ix_tup (pv 0) pe_int (fun _ _ => rfl)) (pa_cons pe_int (pa_cons (pe_op op_fdiv (pv 1) pe_int) pa_nil))))))))).pt pss_never pss_nil)
      (pss_one (ps_for PassesOwn.never rfl (pi_ent (by rfl) B.enum (pa_cons (pe_ix ix_tup (pv 0) pe_int (fun _ _ => rfl)) pa_nil)) (pg_tup rfl (pgs_cons (pg_name (i := 2) scNeedL.nd rfl (.inl rfl)) (pgs_cons (pg_name (i := 3) scNeedL.nd rfl (.inl rfl)) pgs_nil)))
        (pss_one (ps_if (pt_not (pt_val (pe_call GS hr (by rfl) DS.g DS.F.kp DS.b .nil pass0 (pa_cons (pv 3) pa_nil)))) pss_never pss_nil)))))), ?_⟩
    have s1 : SqT K H p [.int (l.b : Nat), .ref t] := .inl (.inl e1)
    have s2 : SqT K H t (l.th.map fun cs => V.str (tx cs)) := .inl (.inl e2)
    refine ⟨_, rfl, _, _, _, _, true, rfl, .ty "tuple", .base (.tup e1), kit_ty (by decide +kernel), true, rfl, iteF ?_⟩
    refine ⟨_, rfl, p, _, rfl, .inr s1, rfl, _, rfl, iteF ?_⟩
    refine ⟨_, rfl, p, _, 1, _, rfl, rfl, s1, atI_nat (j := 1) rfl, _, _, _, _, true, rfl, .ty "tuple", .base (.tup e2), kit_ty (by decide +kernel), true, rfl, iteF ?_⟩
    -- many
    refine ⟨_, rfl, p, _, 1, _, rfl, rfl, s1, atI_nat (j := 1) rfl, t, _, rfl, .inr s2, ?_⟩
    have odd := o.odd
    have few := o.few
    have beg := o.beg
    rw [List.length_map]
    refine ⟨_, rfl, _, _, rfl, rfl, (by show (0 : Int) < 2; decide), rfl, _, rfl, ?_⟩
    have c1 : decide (V.int ((l.th.length : Nat) % 2 : Int) = V.int 0) = false := decide_eq_false fun z => by
      have z := V.int.inj z
      omega
    show if decide (V.int ((l.th.length : Nat) % 2 : Int) = V.int 0) = true then _ else _
    rw [c1]
    refine iteF ?_
    refine ⟨_, rfl, _, _, rfl, rfl, .inl ⟨by decide, by decide⟩, _, _, rfl, rfl, _, rfl, ?_⟩
    have c2 : decide ((2 : Int) * 60 ≤ (l.th.length : Nat)) = false := decide_eq_false (by omega)
    show if decide ((2 : Int) * 60 ≤ (l.th.length : Nat)) = true then _ else _
    rw [c2]
    refine iteF ?_
    refine ⟨_, rfl, p, _, 0, _, rfl, rfl, s1, atI_nat (j := 0) rfl, _, rfl, _, _, rfl, rfl, ⟨by decide, by decide⟩, (l.b : Nat), 0, _, rfl, by omega, ?_, true, rfl, iteF ?_⟩
    · show ((l.b : Nat) : Int) ≤ ((l.th.length : Nat) : Int) / 2
      omega
    -- each set
    refine ⟨_, rfl, p, _, 1, _, rfl, rfl, s1, atI_nat (j := 1) rfl, t, _, rfl, s2, ?_⟩
    refine for_it walk_et (fun i σ H' => Same H H' ∧ ∃ x y z, σ = [some (.ref p), x, y, z]) ⟨Same.refl _, _, _, _, rfl⟩ (fun i σ H' _ h => .inl (.inl (h.1 _ _ e2))) (fun i v σ Ha Hb hi h y => ?_) fun σ H' h => q _ h.1
    obtain ⟨sm, x', y', z', rfl⟩ := h
    obtain ⟨T, x, rfl, nT, rfl, hx⟩ := y
    rw [List.length_map] at hi
    rw [lane_at hi] at hx
    cases hx
    refine ⟨T, _, rfl, .inl (.inl upd_same), rfl, _, _, rfl, _, _, rfl, rfl, _, rfl, l.at i, rfl, ?_, fun H' sm' => ⟨true, rfl, iteF ?_⟩⟩
    · refine o.sets _ ?_
      unfold Lane.at
      rw [List.getD_eq_getElem?_getD, List.getElem?_eq_getElem hi]
      exact List.getElem_mem hi
    · exact ⟨sm.trans ((same_new nT).trans sm'), _, _, _, rfl⟩
def spNeedH : Sp := fun vs H Q _ => ∃ p hs, vs = [.ref p] ∧ HouseAt H p hs ∧ HouseOk hs ∧ ∀ H', Same H H' → Q .non H'
theorem ok_needH {f fL fN fI fS : Addr} {fd fdL fdN fdI fdS : FuncData} (D : Df K mg "need_house" sNeedH ["value"] f fd) (DL : Df K mg "need_lane" sNeedL ["value"] fL fdL) (DN : Df K mg "is_in" sIn ["value", "least", "most"] fN fdN) (DI : Df K mg "is_int" sInt ["value"] fI fdI) (DS : Df K mg "is_set" sSet ["value"] fS fdS)
    (B : Bt mg) {tk tr tl : Tok} (gk : mg "KINDS" = some (.str (tx kinds) tk)) (gr : mg "MOST_ROOMS" = some (.int 60 tr)) (gl : mg "MOST_LANES" = some (.int 4 tl)) : FnOk P w K mg base CX0 4 f fd ["value"] spNeedH := by
  have GL : FnOk P w K mg base CX0 3 fL fdL ["value"] spNeedL := ok_needL DL DN DI DS B gk gr
  refine D.F.ok scNeedH (fun vs H Q E h => ?_) (fun cdv A outer s H vs Q E hr h => ?_)
  · obtain ⟨p, hs, rfl, _⟩ := h
    rfl
  · obtain ⟨p, hs, rfl, ⟨ps, e1, r1⟩, o, q⟩ := h
    refine ⟨_, pss_cons (ps_if (pw_or (pt_not (pt_val (pe_callB call_isi (by rfl) B.isi (by decide +kernel) (pa_cons (pv 0) (pa_cons (pe_bltn (v := .ty "tuple") (by rfl) B.tuple (by decide +kernel) rfl) pa_nil)))))
        (pw_or1 (pt_not (pt_chain op_le op_le pe_int (pe_callB call_len_seq (by rfl) B.len PySem.boot_len (pa_cons (pv 0) pa_nil)) (pe_glob (v := .int 4) (by rfl) gl ⟨tl, rfl⟩))))).pt pss_never pss_nil)
      (pss_one (ps_for PassesOwn.never rfl (pi_ent (by rfl) B.enum (pa_cons (pv 0) pa_nil)) (pg_tup rfl (pgs_cons (pg_name (i := 1) scNeedH.nd rfl (.inl rfl)) (pgs_cons (pg_name (i := 2) scNeedH.nd rfl (.inl rfl)) pgs_nil)))
        (pss_one (ps_try_thru0 (pss_one (ps_expr (pe_call GL hr (by rfl) DL.g DL.F.kp DL.b .nil pass0 (pa_cons (pv 2) pa_nil)))))))), ?_⟩
    have s1 : SqT K H p (ps.map V.ref) := .inl (.inl e1)
    have hl : ps.length = hs.length := Paired.length r1
    have one := o.one
    have few := o.few
    refine ⟨_, rfl, _, _, _, _, true, rfl, .ty "tuple", .base (.tup e1), kit_ty (by decide +kernel), true, rfl, iteF ?_⟩
    refine ⟨_, rfl, p, _, rfl, .inr s1, _, _, rfl, rfl, _, rfl, ?_⟩
    rw [List.length_map, hl]
    show if decide ((1 : Int) ≤ (hs.length : Nat)) = true then _ else _
    rw [decide_eq_true (show (1 : Int) ≤ (hs.length : Nat) by omega)]
    refine iteT ?_
    refine ⟨_, _, rfl, rfl, _, rfl, ?_⟩
    show if (!decide (((hs.length : Nat) : Int) ≤ 4)) = true then _ else _
    rw [decide_eq_true (show ((hs.length : Nat) : Int) ≤ 4 by omega)]
    refine iteF ?_
    refine ⟨_, rfl, p, _, rfl, s1, ?_⟩
    refine for_it walk_et (fun i σ H' => Same H H' ∧ ∃ y z, σ = [some (.ref p), y, z]) ⟨Same.refl _, _, _, rfl⟩ (fun i σ H' _ h => .inl (.inl (h.1 _ _ e1))) (fun i v σ Ha Hb hi h y => ?_) fun σ H' h => q _ h.1
    obtain ⟨sm, y', z', rfl⟩ := h
    obtain ⟨T, x, rfl, nT, rfl, hx⟩ := y
    rw [List.getElem?_map] at hx
    cases hp : ps[i]? with
    | none => rw [hp] at hx; cases hx
    | some a =>
      rw [hp] at hx
      cases hx
      obtain ⟨l, hl, la⟩ := paired_get r1 hp
      have sm2 := sm.trans (same_new (o := .tup [.int (i : Nat), .ref a]) nT)
      refine ⟨T, _, rfl, .inl (.inl upd_same), rfl, _, _, rfl, _, _, rfl, rfl, _, rfl, a, l, rfl, (keep_same sm2).lane la, o.ok _ (List.mem_of_getElem? hl), fun H' sm' => ⟨sm2.trans sm', _, _, rfl⟩⟩
end
end K76

set_option Elab.async false
set_option linter.all false
set_option maxRecDepth 100000
/-! k76: had_of. -/
namespace K76
open PySem PySem.Spec PyProof.Rows L2
abbrev sHad : Stmt := topS 17
theorem scHad : FnScope ["lane", "span", "rooms", "x", "y", "room", "sign"] ["lane", "span"] (defScope sHad) := ⟨rfl, rfl, rfl, by decide +kernel, rfl, by decide +kernel, by decide +kernel⟩
/-! ### dicts of signs -/
abbrev k1 (c : Nat) : Key := Sum.inr (t1 c)
def KsOk (kvs : List (Key × V)) (S : Nat → Prop) : Prop := ∃ cs : List Nat, kvs.map (·.1) = cs.map k1 ∧ cs.Nodup ∧ ∀ c, c ∈ cs ↔ S c
theorem k1_inj {c d : Nat} (e : k1 c = k1 d) : c = d := by
  have e : (Sum.inr (t1 c) : Sum Int Str) = Sum.inr (t1 d) := e
  injection e with e
  exact t1_inj e
theorem ks_nil : KsOk [] fun _ => False := ⟨[], rfl, List.nodup_nil, fun c => by simp⟩
theorem KsOk.mono {kvs : List (Key × V)} {S T : Nat → Prop} (h : KsOk kvs S) (e : ∀ c, S c ↔ T c) : KsOk kvs T := by
  obtain ⟨cs, a, b, d⟩ := h
  exact ⟨cs, a, b, fun c => (d c).trans (e c)⟩
theorem KsOk.some {kvs : List (Key × V)} {S : Nat → Prop} (h : KsOk kvs S) (c : Nat) : (valV kvs (k1 c)).isSome = true ↔ S c := by
  obtain ⟨cs, a, b, d⟩ := h
  rw [← valV_any, ← d c]
  have e : (kvs.any fun kv => decide (kv.1 = k1 c)) = (cs.map k1).any fun k => decide (k = k1 c) := by
    rw [← a, List.any_map]
    rfl
  rw [e, List.any_eq_true]
  constructor
  · rintro ⟨k, hk, e⟩
    obtain ⟨c', hc, rfl⟩ := List.mem_map.mp hk
    rw [← k1_inj (of_decide_eq_true e)]
    exact hc
  · intro hc
    exact ⟨_, List.mem_map.mpr ⟨c, hc, rfl⟩, decide_eq_true rfl⟩
theorem KsOk.put {kvs : List (Key × V)} {S : Nat → Prop} (h : KsOk kvs S) (c : Nat) (v : V) : KsOk (putK kvs (k1 c) v) fun d => S d ∨ d = c := by
  have hs := h.some c
  obtain ⟨cs, a, b, d⟩ := h
  unfold putK
  rw [valV_any]
  by_cases e : (valV kvs (k1 c)).isSome = true
  · rw [if_pos e]
    refine ⟨cs, ?_, b, fun x => (d x).trans ⟨.inl, fun z => z.elim id fun z => z ▸ hs.mp e⟩⟩
    rw [← a, List.map_map]
    refine List.map_congr_left fun p _ => ?_
    show (if p.1 = k1 c then (p.1, v) else p).1 = p.1
    split <;> rfl
  · rw [if_neg e]
    refine ⟨cs ++ [c], ?_, ?_, fun x => ?_⟩
    · rw [List.map_append, List.map_append, a]
      rfl
    · refine List.nodup_append.mpr ⟨b, by simp, fun x hx y hy z => ?_⟩
      have hy : y = c := by simpa using hy
      rw [z, hy] at hx
      exact e (hs.mpr ((d c).mp hx))
    · rw [List.mem_append, d x, List.mem_singleton]
theorem KsOk.few {kvs : List (Key × V)} {S : Nat → Prop} (h : KsOk kvs S) (k : ∀ c, S c → c ∈ kinds) : kvs.length ≤ 12 := by
  obtain ⟨cs, a, b, d⟩ := h
  have e := congrArg List.length a
  rw [List.length_map, List.length_map] at e
  rw [e]
  exact nodup_le cs kinds b fun c hc => k c ((d c).mp hc)
/-! ### the rooms of a span -/
def roomsL (l : Lane) (s : Span) : List (List Nat) := (List.range (s.1 + 1)).map (fun k => l.at (2 * (l.b - k))) ++ (List.range s.2).map fun k => l.at (2 * (l.b + 1 + k))
theorem rooms_has {l : Lane} {s : Span} (h : s.1 ≤ l.b) (c : Nat) : (∃ r ∈ roomsL l s, c ∈ r) ↔ hasB l s c = true := by
  unfold hasB roomsL
  rw [List.any_eq_true]
  constructor
  · rintro ⟨r, hr, hc⟩
    rcases List.mem_append.mp hr with z | z
    · obtain ⟨k, hk, rfl⟩ := List.mem_map.mp z
      have hk := List.mem_range.mp hk
      refine ⟨s.1 - k, List.mem_range.mpr (by omega), ?_⟩
      rw [show l.b - s.1 + (s.1 - k) = l.b - k by omega]
      simpa using hc
    · obtain ⟨k, hk, rfl⟩ := List.mem_map.mp z
      have hk := List.mem_range.mp hk
      refine ⟨s.1 + 1 + k, List.mem_range.mpr (by omega), ?_⟩
      rw [show l.b - s.1 + (s.1 + 1 + k) = l.b + 1 + k by omega]
      simpa using hc
  · rintro ⟨k, hk, hc⟩
    have hk := List.mem_range.mp hk
    have hc : c ∈ l.at (2 * (l.b - s.1 + k)) := by simpa using hc
    by_cases e : k ≤ s.1
    · refine ⟨_, List.mem_append_left _ (List.mem_map.mpr ⟨s.1 - k, List.mem_range.mpr (by omega), rfl⟩), ?_⟩
      rw [show l.b - (s.1 - k) = l.b - s.1 + k by omega]
      exact hc
    · refine ⟨_, List.mem_append_right _ (List.mem_map.mpr ⟨k - s.1 - 1, List.mem_range.mpr (by omega), rfl⟩), ?_⟩
      rw [show l.b + 1 + (k - s.1 - 1) = l.b - s.1 + k by omega]
      exact hc
theorem at_ok {l : Lane} (o : LaneOk l) (i : Nat) : SetOk (l.at i) := by
  unfold Lane.at
  rw [List.getD_eq_getElem?_getD]
  by_cases h : i < l.th.length
  · rw [List.getElem?_eq_getElem h]
    exact o.sets _ (List.getElem_mem h)
  · rw [List.getElem?_eq_none (by omega)]
    exact ⟨List.Pairwise.nil, fun c hc => by cases hc⟩
theorem room_ok {l : Lane} (o : LaneOk l) {s : Span} {r : List Nat} (h : r ∈ roomsL l s) : SetOk r := by
  rcases List.mem_append.mp h with z | z
  · obtain ⟨k, _, rfl⟩ := List.mem_map.mp z
    exact at_ok o _
  · obtain ⟨k, _, rfl⟩ := List.mem_map.mp z
    exact at_ok o _
/-- the text of the signs had: ascending, each once -/
structure HadTx (l : Lane) (s : Span) (cs : List Nat) : Prop where
  asc : cs.Pairwise (· < ·)
  mem : ∀ c, c ∈ cs ↔ hasB l s c = true
section
variable {P : Program} {w : World} {K : PySem.W.Frag} {mg : Str → Option Value} {base : Heap}
def spHad : Sp := fun vs H Q _ => ∃ p l a s, vs = [.ref p, .ref a] ∧ LaneAt H p l ∧ LaneOk l ∧ PairAt H a s ∧ s.1 ≤ l.left ∧ s.2 ≤ l.right ∧ ∀ H' cs, Same H H' → HadTx l s cs → Q (.str (tx cs)) H'
theorem ok_had {f fL fR : Addr} {fd fdL fdR : FuncData} (D : Df K mg "had_of" sHad ["lane", "span"] f fd) (DL : Df K mg "left_room" sLR ["lane", "x"] fL fdL) (DR : Df K mg "right_room" sRR ["lane", "y"] fR fdR) (B : Bt mg) :
    FnOk P w K mg base CX0 2 f fd ["lane", "span"] spHad := by
  have GL : FnOk P w K mg base CX0 1 fL fdL ["lane", "x"] spLR := ok_LR DL
  have GR : FnOk P w K mg base CX0 1 fR fdR ["lane", "y"] spRR := ok_RR DR
  refine D.F.ok scHad (fun vs H Q E h => ?_) (fun cdv A outer s H vs Q E hr h => ?_)
  · obtain ⟨p, l, a, s, rfl, _⟩ := h
    rfl
  · obtain ⟨p, l, a, s, rfl, la, o, e1, hx, hy, q⟩ := h
    refine ⟨_, pss_cons (ps_set (i := 2) scHad.nd rfl (.inl rfl) (pe_op op_cat
        (pe_lc (own := [("x", 3)]) (g := gName 3) (tt := tYes) rfl scHad.nd (pi_range1 (by rfl) B.range (pa_cons (pe_op op_add (pe_ix ix_tup (pv 1) pe_int (fun _ _ => rfl)) pe_int) pa_nil)) (blkOk_by (N := ["lane", "span", "rooms", "x", "y", "room", "sign"]) (sc := defScope sHad) (by decide +kernel))
          (fun _ _ _ _ _ => pg_name (i := 3) scHad.nd rfl (Or.inl rfl)) (fun _ _ _ _ _ => pts_nil) (fun _ _ _ _ _ => pe_call GL hr (by rfl) DL.g DL.F.kp DL.b .nil pass0 (pa_cons (pv 0) (pa_cons (pv 3) pa_nil))))
        (pe_lc (own := [("y", 4)]) (g := gName 4) (tt := tYes) rfl scHad.nd (pi_range2 (by rfl) B.range (pa_cons pe_int (pa_cons (pe_op op_add (pe_ix ix_tup (pv 1) pe_int (fun _ _ => rfl)) pe_int) pa_nil))) (blkOk_by (N := ["lane", "span", "rooms", "x", "y", "room", "sign"]) (sc := defScope sHad) (by decide +kernel))
          (fun _ _ _ _ _ => pg_name (i := 4) scHad.nd rfl (Or.inl rfl)) (fun _ _ _ _ _ => pts_nil) (fun _ _ _ _ _ => pe_call GR hr (by rfl) DR.g DR.F.kp DR.b .nil pass0 (pa_cons (pv 0) (pa_cons (pv 4) pa_nil))))))
      (pss_one (ps_ret (pe_join pe_str (pe_callB (call_sortedD rfl) (by rfl) B.sorted (by decide +kernel) (pa_cons
        (pe_dc2 (own := [("room", 5), ("sign", 6)]) (vj := [6]) (g := gName 5) (gj := gName 6) rfl scHad.nd (pi_list (pv 2)) (blkOk_by (N := ["lane", "span", "rooms", "x", "y", "room", "sign"]) (sc := defScope sHad) (by decide +kernel)) (by decide)
          (fun _ _ _ _ _ => pg_name (i := 5) scHad.nd rfl (Or.inl rfl)) (fun _ _ _ _ _ => pi_str (pv 5)) (fun _ _ _ _ _ => pg_name (i := 6) scHad.nd rfl (Or.inl rfl)) (fun _ _ _ _ _ => pv 6) (fun _ _ _ _ _ => pe_bl)) pa_nil))))), ?_⟩
    have s1 : SqT K H a [.int (s.1 : Nat), .int (s.2 : Nat)] := .inl (.inl e1)
    have beg := o.beg
    have few := o.few
    have odd := o.odd
    have hx' : s.1 ≤ l.b := hx
    have hy' : s.2 ≤ l.th.length / 2 - l.b := hy
    -- the rooms to the left
    refine ⟨_, rfl, a, _, 0, _, rfl, rfl, s1, atI_nat (j := 0) rfl, _, _, rfl, rfl, _, rfl, by omega, by omega, fun d1 n1 => ?_⟩
    rw [show (((s.1 : Nat) : Int) + 1).toNat = s.1 + 1 by omega]
    refine lc_it walk_range (LcP H d1 fun k => .str (tx (l.at (2 * (l.b - k))))) (lcp_0 n1) (fun _ _ _ _ => trivial) (fun i x Ha Hb hi q1 y => ?_) fun H1 q1 => ?_
    · obtain ⟨rfl, hxv⟩ := y
      have hxv : x = .int ((i : Nat) : Int) := hxv.trans (congrArg V.int (Int.zero_add _))
      subst hxv
      refine ⟨rfl, _, rfl, _, rfl, p, l, i, rfl, (keep_same q1.1).lane la, (by show i ≤ l.b; omega), (by show 2 * (l.b - i) < l.th.length; omega), lcp_step n1 q1 (Same.refl _) rfl (by omega)⟩
    -- to the right
    refine ⟨_, rfl, a, _, 1, _, rfl, rfl, .inl (.inl (q1.1 _ _ e1)), atI_nat (j := 1) rfl, _, _, rfl, rfl, _, _, rfl, ⟨by decide, by decide, by omega, by omega⟩, fun d2 n2 => ?_⟩
    rw [show (((s.2 : Nat) : Int) + 1 - 1).toNat = s.2 by omega]
    refine lc_it walk_range (LcP H1 d2 fun k => .str (tx (l.at (2 * (l.b + 1 + k))))) (lcp_0 n2) (fun _ _ _ _ => trivial) (fun i x Ha Hb hi q2 y => ?_) fun H2 q2 => ?_
    · obtain ⟨rfl, hxv⟩ := y
      have hxv : x = .int ((1 + i : Nat) : Int) := hxv.trans (congrArg V.int (show (1 : Int) + (i : Nat) = ((1 + i : Nat) : Int) by omega))
      subst hxv
      refine ⟨rfl, _, rfl, _, rfl, p, l, 1 + i, rfl, (keep_same (q1.1.trans q2.1)).lane la, trivial, (by show 2 * (l.b + (1 + i)) < l.th.length; omega), lcp_step n2 q2 (Same.refl _) ?_ (by omega)⟩
      show V.str (tx (l.at (2 * (l.b + (1 + i))))) = .str (tx (l.at (2 * (l.b + 1 + i))))
      rw [Nat.add_assoc]
    refine ⟨d1, d2, _, _, rfl, rfl, q2.1 _ _ q1.2, q2.2, ?_, fun d3 n3 => ?_⟩
    · rw [List.length_map, List.length_map, List.length_range, List.length_range, sizeLine_eq]
      omega
    -- the signs
    have er : ((List.range (s.1 + 1)).map fun k => V.str (tx (l.at (2 * (l.b - k))))) ++ ((List.range s.2).map fun k => V.str (tx (l.at (2 * (l.b + 1 + k))))) = (roomsL l s).map fun r => .str (tx r) := by
      unfold roomsL
      rw [List.map_append, List.map_map, List.map_map]
      rfl
    rw [er]
    generalize hH3 : upd H2 d3 (.lst ((roomsL l s).map fun r => .str (tx r))) = H3
    have sm3 : Same H H3 := by rw [← hH3]; exact (q1.1.trans q2.1).trans (same_new n3)
    have e3 : H3 d3 = some (.lst ((roomsL l s).map fun r => .str (tx r))) := by rw [← hH3]; exact upd_same
    refine ⟨⟨_, rfl⟩, _, rfl, d3, rfl, ⟨_, .inl (.inl e3)⟩, fun d4 n4 => ?_⟩
    have ksin : ∀ c, (∃ r ∈ roomsL l s, c ∈ r) → c ∈ kinds := fun c ⟨r, hr, hc⟩ => mem_kinds ((room_ok o hr).2 c hc)
    refine dc2_it walk_list (fun i Hz => Same H3 Hz ∧ ∃ kvs, Hz d4 = some (.dK kvs) ∧ KsOk kvs fun c => ∃ r ∈ (roomsL l s).take i, c ∈ r) ⟨same_new n4, [], upd_same, ks_nil.mono fun c => by simp⟩ (fun i Hz _ h => .inl (.inl (h.1 _ _ e3))) (fun i x Ha Hb hi h y => ?_) fun Hz h => ?_
    · obtain ⟨rfl, hx⟩ := y
      rw [List.getElem?_map] at hx
      cases hr : (roomsL l s)[i]? with
      | none => rw [hr] at hx; cases hx
      | some r =>
        rw [hr] at hx
        cases hx
        obtain ⟨sm, kvs, ed, ko⟩ := h
        refine ⟨rfl, _, rfl, _, rfl, ?_⟩
        refine in_it walk_str (fun j Hz => Same H3 Hz ∧ ∃ kvs, Hz d4 = some (.dK kvs) ∧ KsOk kvs fun c => (∃ r ∈ (roomsL l s).take i, c ∈ r) ∨ c ∈ r.take j) ⟨sm, kvs, ed, ko.mono fun c => by simp⟩ (fun _ _ _ _ => trivial) (fun j x Hc Hd hj h y => ?_) fun Hz h => ?_
        · obtain ⟨rfl, c, hc, rfl⟩ := y
          rw [tx_at] at hc
          obtain ⟨sm, kvs, ed, ko⟩ := h
          have mr := List.mem_of_getElem? hr
          have fewk : kvs.length ≤ 12 := ko.few fun c h => ksin c (h.elim (fun ⟨r', h1, h2⟩ => ⟨r', List.mem_of_mem_take h1, h2⟩) fun h => ⟨r, mr, List.mem_of_mem_take h⟩)
          refine ⟨rfl, _, rfl, kvs, k1 c, rfl, ed, by rw [sizeLine_eq]; omega, fun b x hb => ?_, _, upd_same, (ko.put c _).mono fun d => ?_⟩
          · rw [upd_ne (fun z => by rw [z, n4] at hb; cases hb)]
            exact sm _ _ hb
          · rw [List.take_add_one, hc, List.mem_append, or_assoc]
            simp
        · obtain ⟨sm, kvs, ed, ko⟩ := h
          refine ⟨sm, kvs, ed, ko.mono fun c => ?_⟩
          rw [tx_cps, List.take_length, List.take_add_one, hr]
          simp only [Option.toList_some, List.mem_append, List.mem_singleton]
          constructor
          · rintro (⟨r', h1, h2⟩ | h)
            · exact ⟨r', .inl h1, h2⟩
            · exact ⟨r, .inr rfl, h⟩
          · rintro ⟨r', h1 | rfl, h2⟩
            · exact .inl ⟨r', h1, h2⟩
            · exact .inr h2
    -- sorted, joined
    obtain ⟨sm, kvs, ed, ko⟩ := h
    rw [List.length_map, List.take_length] at ko
    have fewk := ko.few ksin
    obtain ⟨cs, ek, nd, hm⟩ := ko
    have hl : cs.length ≤ 12 := by
      have e := congrArg List.length ek
      rw [List.length_map, List.length_map] at e
      omega
    refine ⟨d4, kvs, cs.map t1, rfl, .inl ed, by rw [ek, List.map_map]; rfl, by rw [List.length_map]; omega, fun ys d5 pm srt n5 => ?_⟩
    obtain ⟨zs, rfl, asc, mz⟩ := asc_codes (ys := ys) (fun y hy => by
      obtain ⟨c, _, rfl⟩ := List.mem_map.mp (pm.mem_iff.mp hy)
      exact ⟨c, rfl⟩) srt (pm.nodup_iff.mpr (List.Pairwise.map t1 (fun a b h e => h (t1_inj e)) nd))
    have mcs : ∀ c, c ∈ zs ↔ c ∈ cs := fun c => by
      rw [mz c, pm.mem_iff]
      exact ⟨fun h => by
        obtain ⟨d, hd, e⟩ := List.mem_map.mp h
        rw [← t1_inj e]
        exact hd, fun h => List.mem_map.mpr ⟨c, h, rfl⟩⟩
    have zl : zs.length = cs.length := by
      have e := pm.length_eq
      rw [List.length_map, List.length_map] at e
      exact e
    refine ⟨tx [], d5, zs.map t1, rfl, rfl, .inl (.inl (.inl upd_same)), ?_, ?_⟩
    · rw [List.map_map]
      have e : (zs.map ((fun x : Str => x.length) ∘ t1)).sum = zs.length := by
        clear mcs zl mz asc srt pm
        induction zs with
        | nil => rfl
        | cons c r ih =>
          rw [List.map_cons, List.sum_cons, ih, List.length_cons]
          show 1 + r.length = r.length + 1
          omega
      rw [e, List.length_map, tx_len]
      show zs.length + zs.length * 0 ≤ 16777216
      omega
    · rw [join1]
      exact q _ zs (sm3.trans (sm.trans (same_new n5))) ⟨asc, fun c => by exact ((mcs c).trans (hm c)).trans (rooms_has hx' c)⟩
end
end K76

set_option Elab.async false
set_option linter.all false
set_option maxRecDepth 100000
/-! k76: spans with one pair put anew. -/
namespace K76
open PySem PySem.Spec PyProof.Rows L2
theorem cut_to {xs : List V} {i : Nat} (h : i ≤ xs.length) : cutV xs none (some (i : Nat)) = xs.take i := by
  unfold cutV
  rw [HT.sIx_none, show HT.sIx xs.length xs.length (some ((i : Nat) : Int)) = min i xs.length from HT.sIx_nat xs.length xs.length i, Nat.min_eq_left h]
  rfl
theorem cut_from {xs : List V} {i : Nat} (h : i ≤ xs.length) : cutV xs (some (i : Nat)) none = xs.drop i := by
  unfold cutV
  rw [HT.sIx_none, show HT.sIx xs.length 0 (some ((i : Nat) : Int)) = min i xs.length from HT.sIx_nat xs.length 0 i, Nat.min_eq_left h]
  exact List.take_of_length_le (by rw [List.length_drop]; omega)
theorem Paired.setAt {α β : Type} {R : α → β → Prop} : ∀ {xs : List α} {ys : List β} {i : Nat} {m : α} {y : β}, Paired R xs ys → i < xs.length → R m y → Paired R (xs.take i ++ [m] ++ xs.drop (i + 1)) (ys.set i y)
  | _, _, 0, _, _, .cons _ t, _, h => .cons h t
  | _, _, i + 1, _, _, .cons a t, hi, h => .cons a (Paired.setAt t (Nat.lt_of_succ_lt_succ hi) h)
def tSpl (K : PySem.W.Frag) (jb ja : Nat) (tm : TE) : TE := tOp (rCatA K) (tOp (rCatA K) (tSl (rSlA K) (tVar jb) tNoPart (tPart (tVar ja))) (tTup (tCons tm tNil))) (tSl (rSlA K) (tVar jb) (tPart (tOp (rI0 fun i j => .int (i + j)) (tVar ja) (tC (.int 1)))) tNoPart)
theorem read_spl {K : PySem.W.Frag} {jb ja i : Nat} {tm : TE} {σ : L2.St} {H : Hp} {Q : VK} {b : Addr} {ss : List Span} {s' : Span} (h1 : σ[jb]? = some (some (.ref b))) (h2 : σ[ja]? = some (some (.int (i : Nat)))) (hb : SpT H b ss) (hi : i < ss.length) (few : ss.length ≤ 100)
    (hm : ∀ (H1 : Hp) (k : VK), Same H H1 → (∀ m H2, Same H1 H2 → PairAt H2 m s' → k (.ref m) H2) → tm σ H1 k) (q : ∀ r H', Same H H' → SpT H' r (ss.set i s') → Q (.ref r) H') : tSpl K jb ja tm σ H Q := by
  obtain ⟨ps, eb, r⟩ := hb
  have hl : ps.length = ss.length := Paired.length r
  have len : (ps.map V.ref).length = ss.length := by rw [List.length_map, hl]
  have one : HT.sIx (ps.map V.ref).length 0 (some (i + 1 : Nat)) = i + 1 := (HT.sIx_nat _ 0 (i + 1)).trans (Nat.min_eq_left (by omega))
  have c2 : cutV (ps.map V.ref) (some ((i : Nat) + 1 : Int)) none = (ps.drop (i + 1)).map V.ref := (cut_from (xs := ps.map V.ref) (i := i + 1) (by omega)).trans List.map_drop.symm
  have sm_pair : ∀ {H'}, Same H H' → Paired (PairAt H') ps ss := fun sm => Paired.mapP r fun _ _ z => (keep_same sm).pair z
  refine ⟨_, h1, _, h2, _, rfl, b, _, rfl, .inl (.inl eb), fun z => ?_, fun _ p1 n1 => ?_⟩
  · exfalso
    have z := z.2
    rw [show HT.sIx (ps.map V.ref).length (ps.map V.ref).length (some ((i : Nat) : Int)) = min i (ps.map V.ref).length from HT.sIx_nat _ _ i] at z
    omega
  rw [cut_to (by omega)]
  have sm1 : Same H (upd H p1 (.tup ((ps.map V.ref).take i))) := same_new n1
  have e1 : upd H p1 (.tup ((ps.map V.ref).take i)) p1 = some (.tup ((ps.map V.ref).take i)) := upd_same
  generalize upd H p1 (.tup ((ps.map V.ref).take i)) = H1 at sm1 e1
  refine hm H1 _ sm1 fun m H2 sm2 em => ⟨(by show 1 ≤ sizeLine; decide), fun p3 n3 => ?_⟩
  have sm3 : Same H2 (upd H2 p3 (.tup [.ref m])) := same_new n3
  have e3 : upd H2 p3 (.tup [.ref m]) p3 = some (.tup [.ref m]) := upd_same
  generalize upd H2 p3 (.tup [.ref m]) = H3 at sm3 e3
  have sm13 := sm2.trans sm3
  -- behind (A + B): some tuple r at Hr
  have rest : ∀ r2 Hr, Same H3 Hr → Hr r2 = some (.tup ((ps.take i ++ [m]).map V.ref)) → tSl (rSlA K) (tVar jb) (tPart (tOp (rI0 fun i j => .int (i + j)) (tVar ja) (tC (.int 1)))) tNoPart σ Hr (fun y H2 => rCatA K (.ref r2) y H2 Q) := fun r2 Hr smr hr2 => by
    have smA : Same H Hr := sm1.trans (sm13.trans smr)
    refine ⟨_, h1, _, h2, _, _, rfl, rfl, _, rfl, b, _, rfl, .inl (.inl (smA _ _ eb)), fun z => ?_, fun _ p5 n5 => ?_⟩
    · exfalso
      have z : HT.sIx (ps.map V.ref).length 0 (some (i + 1 : Nat)) = 0 := z.1
      omega
    rw [c2]
    have sm5 : Same Hr (upd Hr p5 (.tup ((ps.drop (i + 1)).map V.ref))) := same_new n5
    have e5 : upd Hr p5 (.tup ((ps.drop (i + 1)).map V.ref)) p5 = some (.tup ((ps.drop (i + 1)).map V.ref)) := upd_same
    generalize upd Hr p5 (.tup ((ps.drop (i + 1)).map V.ref)) = H5 at sm5 e5
    have fin : ∀ r3 Hz, Same H5 Hz → Hz r3 = some (.tup ((ps.take i ++ [m] ++ ps.drop (i + 1)).map V.ref)) → Q (.ref r3) Hz := fun r3 Hz smz ez => by
      have sm := smA.trans (sm5.trans smz)
      exact q r3 Hz sm ⟨_, ez, Paired.setAt (sm_pair sm) (by omega) ((keep_same (sm3.trans (smr.trans (sm5.trans smz)))).pair em)⟩
    have hr5 : H5 r2 = some (.tup ((ps.take i ++ [m]).map V.ref)) := sm5 _ _ hr2
    refine ⟨r2, p5, _, _, rfl, rfl, .inl (.inl hr5), .inl (.inl e5), ?_, fun z => ?_, fun _ z => ?_, fun _ _ p6 n6 => ?_⟩
    · rw [List.length_map, List.length_map, List.length_append, List.length_take, List.length_drop, sizeLine_eq, List.length_singleton]
      omega
    · simp at z
    · have z : (ps.drop (i + 1)) = [] := List.map_eq_nil_iff.mp z
      refine fin r2 H5 (Same.refl _) ?_
      rw [z, List.append_nil]
      exact hr5
    · rw [← List.map_append]
      exact fin p6 _ (same_new n6) upd_same
  have e13 : H3 p1 = some (.tup ((ps.map V.ref).take i)) := sm13 _ _ e1
  refine ⟨p1, p3, _, _, rfl, rfl, .inl (.inl e13), .inl (.inl e3), ?_, fun z => ?_, (fun _ z => nomatch z), fun _ _ p4 n4 => ?_⟩
  · rw [List.length_take, sizeLine_eq, List.length_singleton]
    omega
  · refine rest p3 H3 (Same.refl _) ?_
    have z : ps.take i = [] := by
      rw [← List.map_take] at z
      exact List.map_eq_nil_iff.mp z
    rw [z]
    exact e3
  · refine rest p4 _ (same_new n4) ?_
    rw [upd_same, List.map_append, List.map_take]
    rfl
end K76

set_option Elab.async false
set_option linter.all false
set_option maxRecDepth 100000
/-! k76: house_had, house_steps. -/
namespace K76
open PySem PySem.Spec PyProof.Rows L2
abbrev sHH : Stmt := topS 22
abbrev sHS : Stmt := topS 23
theorem scHH : FnScope ["house", "spans", "lane", "span", "sign"] ["house", "spans"] (defScope sHH) := ⟨rfl, rfl, rfl, by decide +kernel, rfl, by decide +kernel, by decide +kernel⟩
theorem scHS : FnScope ["house", "spans", "had", "found", "at", "lane", "span", "left", "right", "sign"] ["house", "spans"] (defScope sHS) := ⟨rfl, rfl, rfl, by decide +kernel, rfl, by decide +kernel, by decide +kernel⟩
theorem house_get {H : Hp} {ps : List Addr} {hs : List Lane} (r : Paired (LaneAt H) ps hs) {i : Nat} {x : V} (h : (ps.map V.ref)[i]? = some x) : ∃ p l, x = .ref p ∧ hs[i]? = some l ∧ LaneAt H p l := by
  rw [List.getElem?_map] at h
  cases hp : ps[i]? with
  | none => rw [hp] at h; cases h
  | some p =>
    rw [hp] at h
    obtain ⟨l, hl, la⟩ := paired_get r hp
    exact ⟨p, l, (Option.some.inj h).symm, hl, la⟩
theorem span_get {H : Hp} {ps : List Addr} {ss : List Span} (r : Paired (PairAt H) ps ss) {i : Nat} {x : V} (h : (ps.map V.ref)[i]? = some x) : ∃ p s, x = .ref p ∧ ss[i]? = some s ∧ PairAt H p s := by
  rw [List.getElem?_map] at h
  cases hp : ps[i]? with
  | none => rw [hp] at h; cases h
  | some p =>
    rw [hp] at h
    obtain ⟨s, hs, la⟩ := paired_get r hp
    exact ⟨p, s, (Option.some.inj h).symm, hs, la⟩
theorem had_kinds {l : Lane} (o : LaneOk l) {s : Span} {c : Nat} (h : hasB l s c = true) : c ∈ kinds := by
  unfold hasB at h
  rw [List.any_eq_true] at h
  obtain ⟨k, _, hc⟩ := h
  exact mem_kinds ((at_ok o _).2 c (by simpa using hc))
section
variable {P : Program} {w : World} {K : PySem.W.Frag} {mg : Str → Option Value} {base : Heap}
def spHH : Sp := fun vs H Q _ => ∃ h hs b ss, vs = [.ref h, .ref b] ∧ HouseAt H h hs ∧ HouseOk hs ∧ SpT H b ss ∧ VS hs ss ∧ ∀ H' d kvs, Same H H' → H' d = some (.dK kvs) → KsOk kvs (fun c => had hs ss c = true) → Q (.ref d) H'
theorem ok_hh {f fH fL fR : Addr} {fd fdH fdL fdR : FuncData} (D : Df K mg "house_had" sHH ["house", "spans"] f fd) (DH : Df K mg "had_of" sHad ["lane", "span"] fH fdH) (DL : Df K mg "left_room" sLR ["lane", "x"] fL fdL) (DR : Df K mg "right_room" sRR ["lane", "y"] fR fdR) (B : Bt mg) :
    FnOk P w K mg base CX0 3 f fd ["house", "spans"] spHH := by
  have GH : FnOk P w K mg base CX0 2 fH fdH ["lane", "span"] spHad := ok_had DH DL DR B
  refine D.F.ok scHH (fun vs H Q E h => ?_) (fun cdv A outer s H vs Q E hr h => ?_)
  · obtain ⟨h, hs, b, ss, rfl, _⟩ := h
    rfl
  · obtain ⟨h, hs, b, ss, rfl, ⟨ps, eh, rh⟩, o, ⟨qs, eb, rb⟩, v, q⟩ := h
    refine ⟨_, pss_one (ps_ret (pe_dc2 (own := [("lane", 2), ("span", 3), ("sign", 4)]) (vj := [4]) (g := gTup K 2 (gCons (gName 2) (gCons (gName 3) gNil))) (gj := gName 4) rfl scHH.nd (RZ.pi_zipA (by rfl) B.zip (pa_cons (pv 0) (pa_cons (pv 1) pa_nil)))
        (blkOk_by (N := ["house", "spans", "lane", "span", "sign"]) (sc := defScope sHH) (by decide +kernel)) (by decide)
        (fun _ _ _ _ _ => pg_tup rfl (pgs_cons (pg_name (i := 2) scHH.nd rfl (Or.inl rfl)) (pgs_cons (pg_name (i := 3) scHH.nd rfl (Or.inl rfl)) pgs_nil)))
        (fun _ _ _ _ _ => pi_str (pe_call GH hr (by rfl) DH.g DH.F.kp DH.b .nil pass0 (pa_cons (pv 2) (pa_cons (pv 3) pa_nil)))) (fun _ _ _ _ _ => pg_name (i := 4) scHH.nd rfl (Or.inl rfl)) (fun _ _ _ _ _ => pv 4) (fun _ _ _ _ _ => pe_bl))), ?_⟩
    have l1 : ps.length = hs.length := Paired.length rh
    have l2 : qs.length = ss.length := Paired.length rb
    have vl := v.len
    refine ⟨_, rfl, _, rfl, h, b, _, _, rfl, .inr ⟨.inl (.inl eh), .inl (.inl eb), fun d nd => ?_⟩⟩
    have kin : ∀ c, (∃ (j : Nat) (l : Lane) (s : Span), hs[j]? = some l ∧ ss[j]? = some s ∧ hasB l s c = true) → c ∈ kinds := fun c ⟨j, l, s, h1, _, h3⟩ => had_kinds (o.ok _ (List.mem_of_getElem? h1)) h3
    refine dc2_it (walk_zt (xs := ps.map V.ref) (ys := qs.map V.ref) (by rw [List.length_map, List.length_map]; omega))
      (fun i Hz => Same H Hz ∧ ∃ kvs, Hz d = some (.dK kvs) ∧ KsOk kvs fun c => ∃ (j : Nat) (l : Lane) (s : Span), j < i ∧ hs[j]? = some l ∧ ss[j]? = some s ∧ hasB l s c = true)
      ⟨same_new nd, [], upd_same, ks_nil.mono fun c => ⟨fun z => z.elim, fun ⟨j, _, _, z, _⟩ => absurd z (Nat.not_lt_zero _)⟩⟩ (fun i Hz _ z => ⟨.inl (.inl (z.1 _ _ eh)), .inl (.inl (z.1 _ _ eb))⟩) (fun i x Ha Hb hi z y => ?_) fun Hz z => ?_
    · obtain ⟨T, x1, x2, rfl, nT, rfl, hx1, hx2⟩ := y
      obtain ⟨sm, kvs, ed, ko⟩ := z
      obtain ⟨p, l, rfl, hl, la⟩ := house_get rh hx1
      obtain ⟨a, s, rfl, hS, sa⟩ := span_get rb hx2
      have smT : Same H (upd Ha T (.tup [.ref p, .ref a])) := sm.trans (same_new nT)
      have edT := same_new (o := .tup [.ref p, .ref a]) nT _ _ ed
      have ol := o.ok _ (List.mem_of_getElem? hl)
      have bd := v.bnd i l s hl hS
      refine ⟨T, _, rfl, .inl (.inl upd_same), rfl, _, _, rfl, _, _, rfl, rfl, rfl, _, rfl, _, rfl, p, l, a, s, rfl, (keep_same smT).lane la, ol, (keep_same smT).pair sa, bd.1, bd.2, fun H1 cs sm1 ht => ?_⟩
      refine ⟨tx cs, rfl, ?_⟩
      refine in_it walk_str (fun j Hz => Same H Hz ∧ ∃ kvs, Hz d = some (.dK kvs) ∧ KsOk kvs fun c => (∃ (j : Nat) (l : Lane) (s : Span), j < i ∧ hs[j]? = some l ∧ ss[j]? = some s ∧ hasB l s c = true) ∨ c ∈ cs.take j) ⟨smT.trans sm1, kvs, sm1 _ _ edT, ko.mono fun c => by simp⟩ (fun _ _ _ _ => trivial)
        (fun j x Hc Hd hj z y => ?_) fun Hz z => ?_
      · obtain ⟨rfl, c, hc, rfl⟩ := y
        rw [tx_at] at hc
        obtain ⟨sm, kvs, ed, ko⟩ := z
        have fewk : kvs.length ≤ 12 := ko.few fun c z => kin c (z.elim (fun ⟨j, l, s, _, z⟩ => ⟨j, l, s, z⟩) fun z => ⟨i, l, s, hl, hS, (ht.mem c).mp (List.mem_of_mem_take z)⟩)
        refine ⟨rfl, _, rfl, kvs, k1 c, rfl, ed, by rw [sizeLine_eq]; omega, fun b x hb => ?_, _, upd_same, (ko.put c _).mono fun e => ?_⟩
        · rw [upd_ne (fun z => by rw [z, nd] at hb; cases hb)]
          exact sm _ _ hb
        · rw [List.take_add_one, hc, List.mem_append, or_assoc]
          simp
      · obtain ⟨sm, kvs, ed, ko⟩ := z
        refine ⟨sm, kvs, ed, ko.mono fun c => ?_⟩
        rw [tx_cps, List.take_length, ht.mem c]
        constructor
        · rintro (⟨j, l', s', z1, z2⟩ | z)
          · exact ⟨j, l', s', Nat.lt_succ_of_lt z1, z2⟩
          · exact ⟨i, l, s, Nat.lt_succ_self _, hl, hS, z⟩
        · rintro ⟨j, l', s', z1, z2, z3, z4⟩
          by_cases e : j = i
          · subst e
            rw [hl] at z2
            rw [hS] at z3
            cases z2
            cases z3
            exact .inr z4
          · exact .inl ⟨j, l', s', by omega, z2, z3, z4⟩
    · obtain ⟨sm, kvs, ed, ko⟩ := z
      rw [List.length_map] at ko
      refine q Hz d kvs sm ed (ko.mono fun c => ?_)
      rw [had_iff]
      refine ⟨fun ⟨j, l, s, _, z⟩ => ⟨j, l, s, z⟩, fun ⟨j, l, s, z1, z⟩ => ⟨j, l, s, ?_, z1, z⟩⟩
      have := (List.getElem?_eq_some_iff.mp z1).1
      omega
end
end K76

set_option Elab.async false
set_option linter.all false
set_option maxRecDepth 100000
/-! k76: house_steps. -/
namespace K76
open PySem PySem.Spec PyProof.Rows L2
/-- what stood stands, but for the object at f -/
def SameX (f : Addr) (H H' : Hp) : Prop := ∀ b x, b ≠ f → H b = some x → H' b = some x
theorem SameX.refl (f : Addr) (H : Hp) : SameX f H H := fun _ _ _ e => e
theorem SameX.trans {f : Addr} {H H1 H2 : Hp} (a : SameX f H H1) (b : SameX f H1 H2) : SameX f H H2 := fun c x hc e => b c x hc (a c x hc e)
theorem SameX.of {f : Addr} {H H' : Hp} (s : Same H H') : SameX f H H' := fun b x _ e => s b x e
theorem SameX.upd (f : Addr) (H : Hp) (o : HO) : SameX f H (upd H f o) := fun b x hb e => by rw [upd_ne hb]; exact e
theorem SameX.keep {f : Addr} {H H' : Hp} {xs : List V} (s : SameX f H H') (e : H f = some (.lst xs)) : KeepT H H' := fun b ys h => s b _ (fun z => by rw [z, e] at h; cases h) h
/-- a step as the program tells it: a lane's place, the spans behind it -/
def StepT (H : Hp) (p : Addr) (t : List Span) : Prop := ∃ (i : Int) (b : Addr), H p = some (.tup [.int i, .ref b]) ∧ SpT H b t
theorem KeepT.step {H H' : Hp} (k : KeepT H H') {p : Addr} {t : List Span} (h : StepT H p t) : StepT H' p t := by
  obtain ⟨i, b, e, s⟩ := h
  exact ⟨i, b, k _ _ e, k.spt s⟩
theorem Paired.app {α β : Type} {R : α → β → Prop} : ∀ {xs xs' : List α} {ys ys' : List β}, Paired R xs ys → Paired R xs' ys' → Paired R (xs ++ xs') (ys ++ ys')
  | _, _, _, _, .nil, h => h
  | _, _, _, _, .cons a t, h => .cons a (Paired.app t h)
theorem all_at (S : Nat → Bool) : ∀ door : List Nat, ((List.range door.length).map fun j => S (door.getD j 0)).all id = door.all S := fun door => by
  have e : (List.range door.length).map (fun j => S (door.getD j 0)) = door.map S := by
    refine List.ext_getElem? fun i => ?_
    rw [List.getElem?_map, List.getElem?_map]
    by_cases h : i < door.length
    · rw [List.getElem?_eq_getElem (by rw [List.length_range]; exact h), List.getElem?_eq_getElem h, List.getElem_range]
      show some (S (door.getD i 0)) = some (S door[i])
      rw [List.getD_eq_getElem?_getD, List.getElem?_eq_getElem h]
      rfl
    · rw [List.getElem?_eq_none (by rw [List.length_range]; omega), List.getElem?_eq_none (by omega)]
      rfl
  rw [e, List.all_map]
  rfl
theorem KsOk.some_eq {kvs : List (Key × V)} {S : Nat → Bool} (h : KsOk kvs fun c => S c = true) (c : Nat) : (valV kvs (k1 c)).isSome = S c := by
  have q := h.some c
  cases hb : S c with
  | true => exact q.mpr hb
  | false =>
    cases hv : (valV kvs (k1 c)).isSome with
    | false => rfl
    | true =>
      have z := q.mp hv
      rw [hb] at z
      cases z
theorem read_open {K : PySem.W.Frag} {te : TE} {H : Hp} {Q : VK} {d : Addr} {kvs : List (Key × V)} {S : Nat → Bool} {door : List Nat} {a0 a1 a3 a4 a5 a6 a7 a8 a9 : Option V} (few : door.length ≤ 100) (hd : H d = some (.dK kvs)) (ko : KsOk kvs fun c => S c = true)
    (ht : ∀ k : VK, k (.str (tx door)) H → te [a0, a1, some (.ref d), a3, a4, a5, a6, a7, a8, a9] H k) (q : ∀ H', Same H H' → Q (.bl (door.all S)) H') :
    tCB (rAll K) (tCons (tLc (iStr te) (gName 9) tYes (tDIn (tVar 9) (tVar 2)) [9]) tNil) [a0, a1, some (.ref d), a3, a4, a5, a6, a7, a8, a9] H Q := by
  refine ht _ ⟨tx door, rfl, fun D nD => ?_⟩
  refine lc_it walk_str (LcP H D fun j => .bl (S (door.getD j 0))) (lcp_0 nD) (fun _ _ _ _ => trivial) (fun i x Ha Hb hi p y => ?_) fun Hz p => ?_
  · obtain ⟨rfl, c, hc, rfl⟩ := y
    rw [tx_at] at hc
    rw [tx_cps] at hi
    refine ⟨rfl, _, rfl, _, rfl, d, _, rfl, DGet.k (k := k1 c) (p.1 _ _ hd), lcp_step nD p (Same.refl _) ?_ (by omega)⟩
    show V.bl (valV kvs (k1 c)).isSome = .bl (S (door.getD i 0))
    rw [ko.some_eq c, List.getD_eq_getElem?_getD, hc]
    rfl
  · rw [tx_cps] at p
    refine ⟨D, (List.range door.length).map fun j => S (door.getD j 0), rfl, .inl (.inl (by rw [p.2, bools_all _ fun j => S (door.getD j 0)])), ?_⟩
    rw [all_at]
    exact q _ p.1
theorem stepsAt_len (hs : List Lane) (ss : List Span) (i : Nat) : (stepsAt hs ss i).length ≤ 2 := by
  unfold stepsAt
  split
  · rw [List.length_append]
    have : ∀ (c : Bool) (t : List Span), (if c = true then [t] else []).length ≤ 1 := fun c t => by cases c <;> simp
    have h1 := this (canL hs ss ‹_› ‹_›)
    have h2 := this (canR hs ss ‹_› ‹_›)
    have := h1 (ss.set i ((‹Span› : Span).1 + 1, (‹Span› : Span).2))
    have := h2 (ss.set i ((‹Span› : Span).1, (‹Span› : Span).2 + 1))
    omega
  · simp
theorem pre_len (hs : List Lane) (ss : List Span) : ∀ i, ((List.range i).flatMap (stepsAt hs ss)).length ≤ 2 * i
  | 0 => by simp
  | i + 1 => by
    have ih := pre_len hs ss i
    have h := stepsAt_len hs ss i
    rw [List.range_succ, List.flatMap_append, List.length_append, List.flatMap_singleton]
    omega
theorem two_step {tc : TT} {t1 t2 u : TS} {D : Ends} {σ : L2.St} {H : Hp} (C : Hp → Prop) (hn : ∀ Hs, C Hs → u D σ Hs) (ht : (∀ Hs, C Hs → u D σ Hs) → tIfS tc t1 t2 { D with nx := u D } σ H) : tSeq (tIfS tc t1 t2) u D σ H := ht hn
section
variable {P : Program} {w : World} {K : PySem.W.Frag} {mg : Str → Option Value} {base : Heap}
/-- the defs that house_steps leans on -/
structure Hd (K : PySem.W.Frag) (mg : Str → Option Value) : Prop where
  hh : ∃ f fd, Df K mg "house_had" sHH ["house", "spans"] f fd
  had : ∃ f fd, Df K mg "had_of" sHad ["lane", "span"] f fd
  lr : ∃ f fd, Df K mg "left_room" sLR ["lane", "x"] f fd
  rr : ∃ f fd, Df K mg "right_room" sRR ["lane", "y"] f fd
  ld : ∃ f fd, Df K mg "left_door" sLD ["lane", "x"] f fd
  rd : ∃ f fd, Df K mg "right_door" sRD ["lane", "y"] f fd
  si : ∃ f fd, Df K mg "sides_of" sSides ["lane"] f fd
def spHS : Sp := fun vs H Q _ => ∃ h hs b ss, vs = [.ref h, .ref b] ∧ HouseAt H h hs ∧ HouseOk hs ∧ SpT H b ss ∧ VS hs ss ∧ ∀ H' l ps, Same H H' → H' l = some (.lst (ps.map V.ref)) → Paired (StepT H') ps (steps hs ss) → Q (.ref l) H'
theorem ok_hs {f : Addr} {fd : FuncData} (D : Df K mg "house_steps" sHS ["house", "spans"] f fd) (X : Hd K mg) (B : Bt mg) : FnOk P w K mg base CX0 4 f fd ["house", "spans"] spHS := by
  obtain ⟨f1, d1, D1⟩ := X.hh
  obtain ⟨f2, d2, D2⟩ := X.had
  obtain ⟨f3, d3, D3⟩ := X.lr
  obtain ⟨f4, d4, D4⟩ := X.rr
  obtain ⟨f5, d5, D5⟩ := X.ld
  obtain ⟨f6, d6, D6⟩ := X.rd
  obtain ⟨f7, d7, D7⟩ := X.si
  have GH : FnOk P w K mg base CX0 3 f1 d1 ["house", "spans"] spHH := ok_hh D1 D2 D3 D4 B
  have GL : FnOk P w K mg base CX0 3 f5 d5 ["lane", "x"] spLD := ok_LD D5
  have GR : FnOk P w K mg base CX0 3 f6 d6 ["lane", "y"] spRD := ok_RD D6
  have GS : FnOk P w K mg base CX0 3 f7 d7 ["lane"] spSides := ok_sides D7 B
  refine D.F.ok scHS (fun vs H Q E h => ?_) (fun cdv A outer s H vs Q E hr h => ?_)
  · obtain ⟨h, hs, b, ss, rfl, _⟩ := h
    rfl
  · obtain ⟨h, hs, b, ss, rfl, ⟨ps, eh, rh⟩, o, sb, v, q⟩ := h
    refine ⟨_, pss_cons (ps_asg (pe_tup (pa_cons (pe_call GH hr (by rfl) D1.g D1.F.kp D1.b .nil pass0 (pa_cons (pv 0) (pa_cons (pv 1) pa_nil))) (pa_cons (pe_lst pa_nil) pa_nil))) (pg_tup rfl (pgs_cons (pg_name (i := 2) scHS.nd rfl (.inr rfl)) (pgs_cons (pg_name (i := 3) scHS.nd rfl (.inl rfl)) pgs_nil))))
      (pss_cons (ps_for PassesOwn.never rfl (pi_enz (by rfl) B.enum (by rfl) B.zip (pa_cons (pv 0) (pa_cons (pv 1) pa_nil)))
          (pg_tup rfl (pgs_cons (pg_name (i := 4) scHS.nd rfl (.inl rfl)) (pgs_cons (pg_tup rfl (pgs_cons (pg_name (i := 5) scHS.nd rfl (.inl rfl)) (pgs_cons (pg_name (i := 6) scHS.nd rfl (.inl rfl)) pgs_nil))) pgs_nil)))
        (pss_cons (ps_asg (pe_call GS hr (by rfl) D7.g D7.F.kp D7.b .nil pass0 (pa_cons (pv 5) pa_nil)) (pg_tup rfl (pgs_cons (pg_name (i := 7) scHS.nd rfl (.inl rfl)) (pgs_cons (pg_name (i := 8) scHS.nd rfl (.inl rfl)) pgs_nil))))
        (pss_cons (ps_if (pw_and (pt_cmpR op_lt (pe_ix ix_tup (pv 6) pe_int (fun _ _ => rfl)) (pv 7) (nomark _)) (pw_and1 (pt_val (pe_callB (cr_all rfl) (by rfl) B.all (by decide +kernel) (pa_cons
            (pe_lc (own := [("sign", 9)]) (g := gName 9) (tt := tYes) rfl scHS.nd (pi_str (pe_call GL hr (by rfl) D5.g D5.F.kp D5.b .nil pass0 (pa_cons (pv 5) (pa_cons (pe_ix ix_tup (pv 6) pe_int (fun _ _ => rfl)) pa_nil))))
              (blkOk_by (N := ["house", "spans", "had", "found", "at", "lane", "span", "left", "right", "sign"]) (sc := defScope sHS) (by decide +kernel)) (fun _ _ _ _ _ => pg_name (i := 9) scHS.nd rfl (Or.inl rfl)) (fun _ _ _ _ _ => pts_nil) (fun _ _ _ _ _ => pe_cmp (pc_din (hu_of hr) (pv 9) (pv 2)))) pa_nil))))).pt
          (pss_one (ps_expr (pe_bm PySem.F.plainAttrs_list PySem.F.slot_list_append PySem.F.type_list_append mt_append (pv 3) (pa_cons (pe_tup (pa_cons (pv 4) (pa_cons
            (pe_op op_catA (pe_op op_catA (pe_slice sl_tupA (pv 1) po_none (po_some (pv 4))) (pe_tup (pa_cons (pe_tup (pa_cons (pe_op op_add (pe_ix ix_tup (pv 6) pe_int (fun _ _ => rfl)) pe_int) (pa_cons (pe_ix ix_tup (pv 6) pe_int (fun _ _ => rfl)) pa_nil))) pa_nil)))
              (pe_slice sl_tupA (pv 1) (po_some (pe_op op_add (pv 4) pe_int)) po_none)) pa_nil))) pa_nil)))) pss_nil)
        (pss_one (ps_if (pw_and (pt_cmpR op_lt (pe_ix ix_tup (pv 6) pe_int (fun _ _ => rfl)) (pv 8) (nomark _)) (pw_and1 (pt_val (pe_callB (cr_all rfl) (by rfl) B.all (by decide +kernel) (pa_cons
            (pe_lc (own := [("sign", 9)]) (g := gName 9) (tt := tYes) rfl scHS.nd (pi_str (pe_call GR hr (by rfl) D6.g D6.F.kp D6.b .nil pass0 (pa_cons (pv 5) (pa_cons (pe_ix ix_tup (pv 6) pe_int (fun _ _ => rfl)) pa_nil))))
              (blkOk_by (N := ["house", "spans", "had", "found", "at", "lane", "span", "left", "right", "sign"]) (sc := defScope sHS) (by decide +kernel)) (fun _ _ _ _ _ => pg_name (i := 9) scHS.nd rfl (Or.inl rfl)) (fun _ _ _ _ _ => pts_nil) (fun _ _ _ _ _ => pe_cmp (pc_din (hu_of hr) (pv 9) (pv 2)))) pa_nil))))).pt
          (pss_one (ps_expr (pe_bm PySem.F.plainAttrs_list PySem.F.slot_list_append PySem.F.type_list_append mt_append (pv 3) (pa_cons (pe_tup (pa_cons (pv 4) (pa_cons
            (pe_op op_catA (pe_op op_catA (pe_slice sl_tupA (pv 1) po_none (po_some (pv 4))) (pe_tup (pa_cons (pe_tup (pa_cons (pe_ix ix_tup (pv 6) pe_int (fun _ _ => rfl)) (pa_cons (pe_op op_add (pe_ix ix_tup (pv 6) pe_int (fun _ _ => rfl)) pe_int) pa_nil))) pa_nil)))
              (pe_slice sl_tupA (pv 1) (po_some (pe_op op_add (pv 4) pe_int)) po_none)) pa_nil))) pa_nil)))) pss_nil)))))
      (pss_one (ps_ret (pv 3)))), ?_⟩
    obtain ⟨qs, eb, rb⟩ := id sb
    have l1 : ps.length = hs.length := Paired.length rh
    have l2 : qs.length = ss.length := Paired.length rb
    have vl := v.len
    have few := o.few
    -- had, found
    refine ⟨_, rfl, _, rfl, h, hs, b, ss, rfl, ⟨ps, eh, rh⟩, o, sb, v, fun H1 d kvs sm1 ed ko => ⟨Nat.zero_le _, fun f nf => ⟨(by show 2 ≤ sizeLine; decide), fun T0 nT0 => ?_⟩⟩⟩
    have ef0 : upd H1 f (.lst []) f = some (.lst []) := upd_same
    have smf : Same H1 (upd H1 f (.lst [])) := same_new nf
    have fresh : ∀ b x, H b = some x → b ≠ f := fun b x hb z => by
      have := sm1 _ _ hb
      rw [z, nf] at this
      cases this
    generalize upd H1 f (.lst []) = Hf at ef0 smf nT0
    refine ⟨T0, _, rfl, .inl (.inl upd_same), rfl, _, _, rfl, _, _, rfl, rfl, ?_⟩
    have smT : Same Hf (upd Hf T0 (.tup [.ref d, .ref f])) := same_new nT0
    generalize upd Hf T0 (.tup [.ref d, .ref f]) = H2 at smT
    have sm2 : Same H H2 := sm1.trans (smf.trans smT)
    have ef2 : H2 f = some (.lst []) := smT _ _ ef0
    have ed2 : H2 d = some (.dK kvs) := smT _ _ (smf _ _ ed)
    have ndf : d ≠ f := fun z => by rw [z, ef2] at ed2; cases ed2
    -- the walk
    refine ⟨_, rfl, _, rfl, h, b, _, _, rfl, .inl (.inl (sm2 _ _ eh)), .inl (.inl (sm2 _ _ eb)), ?_⟩
    have nh := fresh _ _ eh
    have nb := fresh _ _ eb
    refine for_it (walk_ez (xs := ps.map V.ref) (ys := qs.map V.ref) (by rw [List.length_map, List.length_map]; omega))
      (fun i σ Hz => (∃ y4 y5 y6 y7 y8, σ = [some (.ref h), some (.ref b), some (.ref d), some (.ref f), y4, y5, y6, y7, y8, none]) ∧ SameX f H2 Hz ∧ ∃ rs, Hz f = some (.lst (rs.map V.ref)) ∧ Paired (StepT Hz) rs ((List.range i).flatMap (stepsAt hs ss)))
      ⟨⟨_, _, _, _, _, rfl⟩, SameX.refl _ _, [], ef2, .nil⟩ (fun i σ Hz _ z => ⟨.inl (.inl (z.2.1 _ _ nh (sm2 _ _ eh))), .inl (.inl (z.2.1 _ _ nb (sm2 _ _ eb)))⟩) (fun i x σ Ha Hb hi z y => ?_) fun σ Hz z => ?_
    · obtain ⟨⟨y4, y5, y6, y7, y8, rfl⟩, sx, rs, efa, pr⟩ := z
      obtain ⟨S, T, x1, x2, rfl, nS, nT, rfl, hx1, hx2⟩ := y
      obtain ⟨p, l, rfl, hl, la⟩ := house_get rh hx1
      obtain ⟨a, s, rfl, hS, sa⟩ := span_get rb hx2
      have ol := o.ok _ (List.mem_of_getElem? hl)
      have bd := v.bnd i l s hl hS
      have beg := ol.beg
      have odd := ol.odd
      have fewt := ol.few
      have bl1 : s.1 ≤ l.b := bd.1
      have bl2 : s.2 ≤ l.th.length / 2 - l.b := bd.2
      have hiS : i < ss.length := by rw [List.length_map] at hi; omega
      have smS : Same Ha (upd Ha S (.tup [.ref p, .ref a])) := same_new nS
      have eS : upd Ha S (.tup [.ref p, .ref a]) S = some (.tup [.ref p, .ref a]) := upd_same
      generalize upd Ha S (.tup [.ref p, .ref a]) = Hs at smS eS nT
      have smT2 : Same Hs (upd Hs T (.tup [.int (i : Nat), .ref S])) := same_new nT
      have eT : upd Hs T (.tup [.int (i : Nat), .ref S]) T = some (.tup [.int (i : Nat), .ref S]) := upd_same
      generalize upd Hs T (.tup [.int (i : Nat), .ref S]) = Hb at smT2 eT
      refine ⟨T, _, rfl, .inl (.inl eT), rfl, _, _, rfl, _, _, rfl, S, _, rfl, .inl (.inl (smT2 _ _ eS)), rfl, _, _, rfl, _, _, rfl, rfl, rfl, ?_⟩
      have smab : Same Ha Hb := smS.trans smT2
      have kA : KeepT H Ha := (keep_same sm2).trans (sx.keep ef2)
      have kB : KeepT H Hb := kA.trans (keep_same smab)
      -- left, right
      refine ⟨_, rfl, p, l, rfl, kB.lane la, ol, fun t nt => ⟨t, _, rfl, .inl (.inl upd_same), rfl, _, _, rfl, _, _, rfl, rfl, ?_⟩⟩
      have smt : Same Hb (upd Hb t (.tup [.int (l.left : Nat), .int (l.right : Nat)])) := same_new nt
      generalize upd Hb t (.tup [.int (l.left : Nat), .int (l.right : Nat)]) = Hc at smt
      have smac : Same Ha Hc := smab.trans smt
      have sxc : SameX f H2 Hc := sx.trans (.of smac)
      have efc : Hc f = some (.lst (rs.map V.ref)) := smac _ _ efa
      have prc : Paired (StepT Hc) rs ((List.range i).flatMap (stepsAt hs ss)) := Paired.mapP pr fun _ _ z => (keep_same smac).step z
      have fewp := pre_len hs ss i
      have keepX : ∀ {Hz}, SameX f H2 Hz → KeepT H Hz := fun sx => (keep_same sm2).trans (sx.keep ef2)
      dsimp only
      refine two_step (fun Hs => SameX f H2 Hs ∧ ∃ rs, Hs f = some (.lst (rs.map V.ref)) ∧ Paired (StepT Hs) rs ((List.range i).flatMap (stepsAt hs ss) ++ if canL hs ss l s = true then [ss.set i (s.1 + 1, s.2)] else [])) (fun Hg hC => ?_) fun hn => ?_
      · -- the right side
        obtain ⟨sxg, rg, efg, prg⟩ := hC
        have kg := keepX sxg
        have lg : rg.length ≤ 2 * i + 1 := by
          have e := Paired.length prg
          rw [e, List.length_append]
          have : (if canL hs ss l s = true then [ss.set i (s.1 + 1, s.2)] else []).length ≤ 1 := by split <;> simp
          omega
        have goal : ∀ Hz, SameX f H2 Hz → (∃ rz, Hz f = some (.lst (rz.map V.ref)) ∧ Paired (StepT Hz) rz (((List.range i).flatMap (stepsAt hs ss) ++ if canL hs ss l s = true then [ss.set i (s.1 + 1, s.2)] else []) ++ if canR hs ss l s = true then [ss.set i (s.1, s.2 + 1)] else [])) →
            SameX f H2 Hz ∧ ∃ rs, Hz f = some (.lst (rs.map V.ref)) ∧ Paired (StepT Hz) rs ((List.range (i + 1)).flatMap (stepsAt hs ss)) := fun Hz sxz ⟨rz, ez, pz⟩ => by
          refine ⟨sxz, rz, ez, ?_⟩
          have e : (List.range (i + 1)).flatMap (stepsAt hs ss) = ((List.range i).flatMap (stepsAt hs ss) ++ if canL hs ss l s = true then [ss.set i (s.1 + 1, s.2)] else []) ++ if canR hs ss l s = true then [ss.set i (s.1, s.2 + 1)] else [] := by
            rw [List.range_succ, List.flatMap_append, List.flatMap_singleton, List.append_assoc]
            congr 1
            unfold stepsAt
            rw [hl, hS]
          rw [e]
          exact pz
        have sqa : ∀ {Hz}, KeepT H Hz → SqT K Hz a [.int (s.1 : Nat), .int (s.2 : Nat)] := fun k => .inl (.inl (k.pair sa))
        refine ⟨_, rfl, a, _, 1, _, rfl, rfl, sqa kg, atI_nat (j := 1) rfl, _, rfl, _, _, rfl, rfl, _, rfl, ?_⟩
        show if decide (((s.2 : Nat) : Int) < (l.right : Nat)) = true then _ else _
        by_cases lt : s.2 < l.right
        · rw [decide_eq_true (show ((s.2 : Nat) : Int) < (l.right : Nat) by omega)]
          refine iteT ?_
          have lt' : s.2 < l.th.length / 2 - l.b := lt
          have ds := at_ok ol (2 * (l.b + s.2) + 1)
          refine read_open (few := Nat.le_trans (set_few ds) (by decide)) (sxg _ _ ndf ed2) ko (fun k hk => ⟨_, rfl, _, rfl, a, _, 1, _, rfl, rfl, sqa kg, atI_nat (j := 1) rfl, p, l, s.2, rfl, kg.lane la, trivial, (by show 2 * (l.b + s.2) + 1 < l.th.length; omega), hk⟩) fun Hq smq => ⟨_, rfl, ?_⟩
          by_cases op : (l.at (2 * (l.b + s.2) + 1)).all (had hs ss) = true
          · rw [op]
            refine iteT ?_
            have efq : Hq f = some (.lst (rg.map V.ref)) := smq _ _ efg
            have kq := kg.trans (keep_same smq)
            refine ⟨.ref f, rfl, .inl ⟨rfl, _, .inl (.inl efq)⟩, _, rfl, ?_⟩
            refine read_spl (K := K) (jb := 1) (ja := 4) (i := i) (s' := (s.1, s.2 + 1)) rfl rfl (kq.spt sb) hiS (by omega) (fun H3 k sm3 hk => ?_) fun r H4 sm4 sp4 => ⟨(by show 2 ≤ sizeLine; decide), fun t4 nt4 => ?_⟩
            · have k3 := kq.trans (keep_same sm3)
              refine ⟨_, rfl, a, _, 0, _, rfl, rfl, sqa k3, atI_nat (j := 0) rfl, _, rfl, a, _, 1, _, rfl, rfl, sqa k3, atI_nat (j := 1) rfl, _, _, rfl, rfl, (by show 2 ≤ sizeLine; decide), fun m nm => hk m _ (same_new nm) upd_same⟩
            · have sm5 : Same Hq (upd H4 t4 (.tup [.int (i : Nat), .ref r])) := sm4.trans (same_new nt4)
              have st : StepT (upd H4 t4 (.tup [.int (i : Nat), .ref r])) t4 (ss.set i (s.1, s.2 + 1)) := ⟨i, r, upd_same, (keep_same (same_new nt4)).spt sp4⟩
              generalize upd H4 t4 (.tup [.int (i : Nat), .ref r]) = H5 at sm5 st
              refine ⟨f, _, _, rfl, rfl, sm5 _ _ efq, ?_, ⟨_, _, _, _, _, rfl⟩, goal _ ?_ ⟨rg ++ [t4], ?_, ?_⟩⟩
              · rw [List.length_map, sizeLine_eq]; omega
              · exact sxg.trans ((SameX.of smq).trans ((SameX.of sm5).trans (SameX.upd _ _ _)))
              · rw [upd_same, List.map_append]; rfl
              · have c : canR hs ss l s = true := by
                  unfold canR
                  rw [decide_eq_true lt]
                  exact op
                rw [if_pos c]
                have ku := (SameX.upd f H5 (.lst (rg.map V.ref ++ [.ref t4]))).keep (sm5 _ _ efq)
                exact Paired.snoc (Paired.mapP prg fun _ _ z => ku.step ((keep_same (smq.trans sm5)).step z)) (ku.step st)
          · rw [Bool.not_eq_true] at op
            rw [op]
            refine iteF ⟨⟨_, _, _, _, _, rfl⟩, goal _ (sxg.trans (.of smq)) ⟨rg, smq _ _ efg, ?_⟩⟩
            have c : canR hs ss l s = false := by
              unfold canR
              rw [decide_eq_true lt]
              exact op
            rw [c]
            show Paired (StepT Hq) rg (_ ++ [])
            rw [List.append_nil]
            exact Paired.mapP prg fun _ _ z => (keep_same smq).step z
        · rw [decide_eq_false (show ¬ ((s.2 : Nat) : Int) < (l.right : Nat) by omega)]
          refine iteF (iteF ⟨⟨_, _, _, _, _, rfl⟩, goal _ sxg ⟨rg, efg, ?_⟩⟩)
          have c : canR hs ss l s = false := by
            unfold canR
            rw [decide_eq_false lt]
            rfl
          rw [c]
          show Paired (StepT Hg) rg (_ ++ [])
          rw [List.append_nil]
          exact prg
      · -- the left side
        have kg : KeepT H Hc := keepX sxc
        have lg : rs.length ≤ 2 * i := by rw [Paired.length prc]; exact fewp
        have sqa : ∀ {Hz}, KeepT H Hz → SqT K Hz a [.int (s.1 : Nat), .int (s.2 : Nat)] := fun k => .inl (.inl (k.pair sa))
        refine ⟨_, rfl, a, _, 0, _, rfl, rfl, sqa kg, atI_nat (j := 0) rfl, _, rfl, _, _, rfl, rfl, _, rfl, ?_⟩
        show if decide (((s.1 : Nat) : Int) < (l.left : Nat)) = true then _ else _
        by_cases lt : s.1 < l.left
        · rw [decide_eq_true (show ((s.1 : Nat) : Int) < (l.left : Nat) by omega)]
          refine iteT ?_
          have lt' : s.1 < l.b := lt
          have ds := at_ok ol (2 * (l.b - s.1) - 1)
          refine read_open (few := Nat.le_trans (set_few ds) (by decide)) (sxc _ _ ndf ed2) ko (fun k hk => ⟨_, rfl, _, rfl, a, _, 0, _, rfl, rfl, sqa kg, atI_nat (j := 0) rfl, p, l, s.1, rfl, kg.lane la, lt', (by show 2 * (l.b - s.1) - 1 < l.th.length; omega), hk⟩) fun Hq smq => ⟨_, rfl, ?_⟩
          by_cases op : (l.at (2 * (l.b - s.1) - 1)).all (had hs ss) = true
          · rw [op]
            refine iteT ?_
            have efq : Hq f = some (.lst (rs.map V.ref)) := smq _ _ efc
            have kq := kg.trans (keep_same smq)
            refine ⟨.ref f, rfl, .inl ⟨rfl, _, .inl (.inl efq)⟩, _, rfl, ?_⟩
            refine read_spl (K := K) (jb := 1) (ja := 4) (i := i) (s' := (s.1 + 1, s.2)) rfl rfl (kq.spt sb) hiS (by omega) (fun H3 k sm3 hk => ?_) fun r H4 sm4 sp4 => ⟨(by show 2 ≤ sizeLine; decide), fun t4 nt4 => ?_⟩
            · have k3 := kq.trans (keep_same sm3)
              refine ⟨_, rfl, a, _, 0, _, rfl, rfl, sqa k3, atI_nat (j := 0) rfl, _, _, rfl, rfl, _, rfl, a, _, 1, _, rfl, rfl, sqa k3, atI_nat (j := 1) rfl, (by show 2 ≤ sizeLine; decide), fun m nm => hk m _ (same_new nm) upd_same⟩
            · have sm5 : Same Hq (upd H4 t4 (.tup [.int (i : Nat), .ref r])) := sm4.trans (same_new nt4)
              have st : StepT (upd H4 t4 (.tup [.int (i : Nat), .ref r])) t4 (ss.set i (s.1 + 1, s.2)) := ⟨i, r, upd_same, (keep_same (same_new nt4)).spt sp4⟩
              generalize upd H4 t4 (.tup [.int (i : Nat), .ref r]) = H5 at sm5 st
              refine ⟨f, _, _, rfl, rfl, sm5 _ _ efq, ?_, hn _ ⟨?_, rs ++ [t4], ?_, ?_⟩⟩
              · rw [List.length_map, sizeLine_eq]; omega
              · exact sxc.trans ((SameX.of smq).trans ((SameX.of sm5).trans (SameX.upd _ _ _)))
              · rw [upd_same, List.map_append]; rfl
              · have c : canL hs ss l s = true := by
                  unfold canL
                  rw [decide_eq_true lt]
                  exact op
                rw [if_pos c]
                have ku := (SameX.upd f H5 (.lst (rs.map V.ref ++ [.ref t4]))).keep (sm5 _ _ efq)
                exact Paired.snoc (Paired.mapP prc fun _ _ z => ku.step ((keep_same (smq.trans sm5)).step z)) (ku.step st)
          · rw [Bool.not_eq_true] at op
            rw [op]
            refine iteF (hn _ ⟨sxc.trans (.of smq), rs, smq _ _ efc, ?_⟩)
            have c : canL hs ss l s = false := by
              unfold canL
              rw [decide_eq_true lt]
              exact op
            rw [c]
            show Paired (StepT Hq) rs (_ ++ [])
            rw [List.append_nil]
            exact Paired.mapP prc fun _ _ z => (keep_same smq).step z
        · rw [decide_eq_false (show ¬ ((s.1 : Nat) : Int) < (l.left : Nat) by omega)]
          refine iteF (iteF (hn _ ⟨sxc, rs, efc, ?_⟩))
          have c : canL hs ss l s = false := by
            unfold canL
            rw [decide_eq_false lt]
            rfl
          rw [c]
          show Paired (StepT Hc) rs (_ ++ [])
          rw [List.append_nil]
          exact prc
    · obtain ⟨⟨y4, y5, y6, y7, y8, rfl⟩, sx, rs, efz, pr⟩ := z
      rw [List.length_map, l1] at pr
      exact ⟨_, rfl, q Hz f rs (fun b x hb => sx _ _ (fresh _ _ hb) (sm2 _ _ hb)) efz pr⟩
end
end K76

set_option Elab.async false
set_option linter.all false
set_option maxRecDepth 100000
/-! k76: lists compared with []; the first spans; house_seen. -/
namespace K76
open PySem PySem.Spec PyProof.Rows L2
theorem lt_of1 {a : Nat} (h : a + 1 < cLine) : a < cLine := by omega
theorem seq_asg {te : TE} {g : TG} {u : TS} {D : Ends} {σ : L2.St} {H : Hp} (h : te σ H fun x H1 => g x σ H1 (u D)) : tSeq (tAsg te g) u D σ H := h
section
variable {X : Cx}
def rEmp (K : PySem.W.Frag) (g : Bool → Bool) : R2 := fun x y H Q => ∃ a b xs, x = .ref a ∧ y = .ref b ∧ SqL K H a xs ∧ SqL K H b [] ∧ Q (.bl (g xs.isEmpty)) H
theorem emp_at {H : Hp} {pins : List (Addr × Obj)} {σ : L2.St} {s : Shared} {a b : Addr} {xs : List V} (I : Inv X pins σ H s) (ha : SqL X.K H a xs) (hb : SqL X.K H b []) :
    ∃ its, s.heap.IsList a its ∧ s.heap.IsList b #[] ∧ (xs.isEmpty = true → its.size = 0) ∧ (xs.isEmpty = false → (its.size != (#[] : Array Value).size) = true) := by
  obtain ⟨its, r, p, _⟩ := I.list ha
  obtain ⟨js, r2, p2, _⟩ := I.list hb
  cases r2
  have hl := r.length
  refine ⟨its.toArray, p.isList, p2.isList, fun e => ?_, fun e => ?_⟩
  · cases xs with
    | nil => rw [List.size_toArray]; simpa using hl.symm
    | cons x r => cases e
  · cases xs with
    | nil => cases e
    | cons x r =>
      rw [List.size_toArray, ← hl]
      rfl
theorem op_eqE (hu : X.A.units < cLine) : OpR X (compareOp .Eq) (rEmp X.K id) := by
  intro pins s σ H x y v u Q I rx ry h
  obtain ⟨a, b, xs, rfl, rfl, ha, hb, q⟩ := h
  cases rx
  cases ry
  obtain ⟨its, l1, l2, h1, h2⟩ := emp_at I ha hb
  cases e : xs.isEmpty with
  | true =>
    rw [e] at q
    have z := h1 e
    refine SeqAt.eq_listAt l1 l2 (e := fun _ => true) (by rw [z]; rfl) hu (fun j hj => absurd hj (by rw [z]; exact Nat.not_lt_zero _)) ⟨.bl true, H, I, ?_, q⟩
    show Value.bool _ = Value.bool true
    rw [z]
    rfl
  | false =>
    rw [e] at q
    exact SeqAt.eq_list_lengthsAt l1 l2 (h2 e) hu ⟨.bl false, H, I, rfl, q⟩
theorem op_neE (hu : X.A.units < cLine) : OpR X (compareOp .NotEq) (rEmp X.K fun b => !b) := by
  intro pins s σ H x y v u Q I rx ry h
  obtain ⟨a, b, xs, rfl, rfl, ha, hb, q⟩ := h
  cases rx
  cases ry
  obtain ⟨its, l1, l2, h1, h2⟩ := emp_at I ha hb
  cases e : xs.isEmpty with
  | true =>
    rw [e] at q
    have z := h1 e
    refine SeqAt.RcNeAt.lists l1 l2 (e := fun _ => true) (by rw [z]; rfl) hu (fun j hj => absurd hj (by rw [z]; exact Nat.not_lt_zero _)) X.prog X.w X.xe _ ⟨.bl false, H, I, ?_, q⟩
    show Value.bool _ = Value.bool false
    rw [z]
    rfl
  | false =>
    rw [e] at q
    exact SeqAt.RcNeAt.lists_lengths l1 l2 (h2 e) hu X.prog X.w X.xe _ ⟨.bl true, H, I, rfl, q⟩
end
/-! ### ((0, 0),) * n -/
def rRep (K : PySem.W.Frag) : R2 := fun x y H Q => ∃ l k xs, x = .ref l ∧ y = .int k ∧ SqT K H l xs ∧ xs ≠ [] ∧ 1 ≤ k ∧ k ≤ 1000 ∧ xs.length ≤ 1000 ∧ (k = 1 → Q (.ref l) H) ∧ (2 ≤ k → ∀ p, H p = none → Q (.ref p) (upd H p (.tup (List.replicate k.toNat xs).flatten)))
theorem paired_rep {α β : Type} {R : α → β → Prop} {x : α} {y : β} (h : R x y) : ∀ n, Paired R (List.replicate n x) (List.replicate n y)
  | 0 => .nil
  | n + 1 => .cons h (paired_rep h n)
theorem flat_rep {α : Type} (x : α) : ∀ n, (List.replicate n [x]).flatten = List.replicate n x
  | 0 => rfl
  | n + 1 => by
    rw [List.replicate_succ, List.flatten_cons, flat_rep x n]
    rfl
theorem read_zeros {K : PySem.W.Frag} {te : TE} {σ : L2.St} {H : Hp} {Q : VK} {n : Nat} (h1 : 1 ≤ n) (h2 : n ≤ 1000) (ht : ∀ (H1 : Hp) (k : VK), Same H H1 → k (.int (n : Nat)) H1 → te σ H1 k) (q : ∀ b H', Same H H' → SpT H' b (zeros n) → Q (.ref b) H') :
    tOp (rRep K) (tTup (tCons (tTup (tCons (tC (.int 0)) (tCons (tC (.int 0)) tNil))) tNil)) te σ H Q := by
  refine ⟨(by show 2 ≤ sizeLine; decide), fun p np => ⟨(by show 1 ≤ sizeLine; decide), fun t nt => ?_⟩⟩
  have sm1 : Same H (upd H p (.tup [.int 0, .int 0])) := same_new np
  have ep : PairAt (upd H p (.tup [.int 0, .int 0])) p (0, 0) := upd_same
  generalize upd H p (.tup [.int 0, .int 0]) = H1 at sm1 ep nt
  have sm2 : Same H1 (upd H1 t (.tup [.ref p])) := same_new nt
  have et : upd H1 t (.tup [.ref p]) t = some (.tup [.ref p]) := upd_same
  generalize upd H1 t (.tup [.ref p]) = H2 at sm2 et
  have ep2 : PairAt H2 p (0, 0) := sm2 _ _ ep
  refine ht H2 _ (sm1.trans sm2) ⟨t, _, _, rfl, rfl, .inl (.inl et), List.cons_ne_nil _ _, by omega, by omega, (by show 1 ≤ 1000; decide), fun e => ?_, fun e r nr => ?_⟩
  · have e : n = 1 := by omega
    refine q t H2 (sm1.trans sm2) ⟨[p], et, ?_⟩
    rw [e]
    exact .cons ep2 .nil
  · refine q r _ ((sm1.trans sm2).trans (same_new nr)) ⟨List.replicate n p, ?_, paired_rep ?_ n⟩
    · rw [upd_same, Int.toNat_natCast, flat_rep, List.map_replicate]
    · exact same_new nr _ _ ep2
theorem zeros_ok {hs : List Lane} : VS hs (zeros hs.length) := Reach.zero.valid
/-! ### house_seen -/
abbrev sSeen : Stmt := topS 24
theorem scSeen : FnScope ["house", "spans", "there"] ["house"] (defScope sSeen) := ⟨rfl, rfl, rfl, by decide +kernel, rfl, by decide +kernel, by decide +kernel⟩
section
variable {P : Program} {w : World} {K : PySem.W.Frag} {mg : Str → Option Value} {base : Heap}
/-- the defs that need_house leans on -/
structure Nd (K : PySem.W.Frag) (mg : Str → Option Value) : Prop where
  nh : ∃ f fd, Df K mg "need_house" sNeedH ["value"] f fd
  nl : ∃ f fd, Df K mg "need_lane" sNeedL ["value"] f fd
  nn : ∃ f fd, Df K mg "is_in" sIn ["value", "least", "most"] f fd
  ni : ∃ f fd, Df K mg "is_int" sInt ["value"] f fd
  ns : ∃ f fd, Df K mg "is_set" sSet ["value"] f fd
  kinds : ∃ t, mg "KINDS" = some (.str (tx kinds) t)
  rooms : ∃ t, mg "MOST_ROOMS" = some (.int 60 t)
  lanes : ∃ t, mg "MOST_LANES" = some (.int 4 t)
theorem Nd.ok (N : Nd K mg) (B : Bt mg) : ∃ f fd, Df K mg "need_house" sNeedH ["value"] f fd ∧ FnOk P w K mg base CX0 4 f fd ["value"] spNeedH := by
  obtain ⟨f, fd, D⟩ := N.nh
  obtain ⟨_, _, D1⟩ := N.nl
  obtain ⟨_, _, D2⟩ := N.nn
  obtain ⟨_, _, D3⟩ := N.ni
  obtain ⟨_, _, D4⟩ := N.ns
  obtain ⟨_, g1⟩ := N.kinds
  obtain ⟨_, g2⟩ := N.rooms
  obtain ⟨_, g3⟩ := N.lanes
  exact ⟨f, fd, D, ok_needH D D1 D2 D3 D4 B g1 g2 g3⟩
def spSeen : Sp := fun vs H Q _ => ∃ h hs, vs = [.ref h] ∧ HouseAt H h hs ∧ HouseOk hs ∧ ∀ H' b G, Same H H' → SpT H' b G → Reach hs G → steps hs G = [] → Q (.ref b) H'
theorem ok_seen {f fS : Addr} {fd fdS : FuncData} (D : Df K mg "house_seen" sSeen ["house"] f fd) (DS : Df K mg "house_steps" sHS ["house", "spans"] fS fdS) (X : Hd K mg) (N : Nd K mg) (B : Bt mg) : FnOk P w K mg base CX0 5 f fd ["house"] spSeen := by
  obtain ⟨fN, fdN, DN, GN⟩ := N.ok (P := P) (w := w) (base := base) B
  have GS : FnOk P w K mg base CX0 4 fS fdS ["house", "spans"] spHS := ok_hs DS X B
  refine D.F.ok scSeen (fun vs H Q E h => ?_) (fun cdv A outer s H vs Q E hr h => ?_)
  · obtain ⟨h, hs, rfl, _⟩ := h
    rfl
  · obtain ⟨h, hs, rfl, ha, o, q⟩ := h
    refine ⟨_, pss_cons (ps_expr (pe_call GN hr (by rfl) DN.g DN.F.kp DN.b .nil pass0 (pa_cons (pv 0) pa_nil)))
      (pss_cons (ps_set (i := 1) scSeen.nd rfl (.inl rfl) (pe_op op_rep (pe_tup (pa_cons (pe_tup (pa_cons pe_int (pa_cons pe_int pa_nil))) pa_nil)) (pe_callB call_len_seq (by rfl) B.len PySem.boot_len (pa_cons (pv 0) pa_nil))))
      (pss_cons (ps_set (i := 2) scSeen.nd rfl (.inl rfl) (pe_call GS hr (by rfl) DS.g DS.F.kp DS.b .nil pass0 (pa_cons (pv 0) (pa_cons (pv 1) pa_nil))))
      (pss_cons (ps_while PassesOwn.never (pt_cmpR (op_neE (lt_of1 (hu_of hr))) (pv 2) (pe_lst pa_nil) (nomark _))
        (pss_cons (ps_set (i := 1) scSeen.nd rfl (.inl rfl) (pe_ix ix_tup (pe_ix ix_list (pv 2) pe_int (fun _ _ => rfl)) pe_int (fun _ _ => rfl)))
        (pss_one (ps_set (i := 2) scSeen.nd rfl (.inl rfl) (pe_call GS hr (by rfl) DS.g DS.F.kp DS.b .nil pass0 (pa_cons (pv 0) (pa_cons (pv 1) pa_nil)))))))
      (pss_one (ps_ret (pv 1)))))), ?_⟩
    obtain ⟨ps, eh, rh⟩ := id ha
    have l1 : ps.length = hs.length := Paired.length rh
    have one := o.one
    have few := o.few
    refine ⟨_, rfl, h, hs, rfl, ha, o, fun H1 sm1 => ?_⟩
    dsimp only
    refine seq_asg ?_
    refine read_zeros (K := K) (n := hs.length) one (by omega) (fun H2 k sm2 hk => ⟨_, rfl, h, _, rfl, .inr (.inl (.inl (sm2 _ _ (sm1 _ _ eh)))), ?_⟩) fun b H2 sm2 sb => ?_
    · rw [List.length_map, l1]
      exact hk
    refine ⟨_, rfl, _, rfl, h, hs, b, _, rfl, (keep_same (sm1.trans sm2)).house ha, o, sb, zeros_ok, fun H3 l rs sm3 el pr => ?_⟩
    refine ⟨fun m σ Hz => ∃ b l ss rs, σ = [some (.ref h), some (.ref b), some (.ref l)] ∧ Same H Hz ∧ SpT Hz b ss ∧ Reach hs ss ∧ Hz l = some (.lst (rs.map V.ref)) ∧ Paired (StepT Hz) rs (steps hs ss) ∧ m = 13 - total ss,
      ⟨_, b, l, _, rs, rfl, (sm1.trans sm2).trans sm3, (keep_same sm3).spt sb, .zero, el, pr, rfl⟩, fun m σ Hz z => ?_⟩
    obtain ⟨b, l, ss, rs, rfl, sm, sb, rc, el, pr, rfl⟩ := z
    refine ⟨_, rfl, Nat.zero_le _, fun e ne => ⟨l, e, _, rfl, rfl, .inl (.inl (same_new ne _ _ el)), .inl (.inl upd_same), _, rfl, ?_⟩⟩
    have sme : Same Hz (upd Hz e (.lst [])) := same_new ne
    generalize upd Hz e (.lst []) = He at sme
    cases hst : steps hs ss with
    | nil =>
      rw [hst] at pr
      cases pr
      refine iteF ?_
      exact ⟨_, rfl, q He b ss (sm.trans sme) ((keep_same sme).spt sb) rc hst⟩
    | cons t r =>
      rw [hst] at pr
      cases pr with
      | @cons r0 _ rs' _ h0 pr =>
        have rt : t ∈ steps hs ss := by rw [hst]; exact List.mem_cons_self
        have rct : Reach hs t := .step rc rt
        refine iteT ⟨fun σ' H' => ∃ b l rs, σ' = [some (.ref h), some (.ref b), some (.ref l)] ∧ Same H H' ∧ SpT H' b t ∧ H' l = some (.lst (rs.map V.ref)) ∧ Paired (StepT H') rs (steps hs t), fun σ' H' z => ?_, ?_⟩
        · obtain ⟨b', l', rs2, e1, e2, e3, e4, e5⟩ := z
          have t1 := step_total rt
          have t2 := total_few o rct.valid
          exact ⟨13 - total t, by omega, b', l', t, rs2, e1, e2, e3, rct, e4, e5, rfl⟩
        · obtain ⟨i0, b0, e0, s0⟩ := (keep_same sme).step h0
          refine ⟨_, rfl, l, _, 0, _, rfl, rfl, .inl (.inl (sme _ _ el)), atI_nat (j := 0) rfl, r0, _, 1, _, rfl, rfl, .inl (.inl e0), atI_nat (j := 1) rfl, ?_⟩
          refine ⟨_, rfl, _, rfl, h, hs, b0, t, rfl, (keep_same (sm.trans sme)).house ha, o, s0, rct.valid, fun H4 l4 rs4 sm4 el4 pr4 => ?_⟩
          exact ⟨b0, l4, rs4, rfl, (sm.trans sme).trans sm4, (keep_same sm4).spt s0, el4, pr4⟩
end
end K76

set_option Elab.async false
set_option linter.all false
set_option maxRecDepth 100000
/-! k76: house_plays. -/
namespace K76
open PySem PySem.Spec PyProof.Rows L2
abbrev sPlays : Stmt := topS 25
theorem scPlays : FnScope ["house", "now", "later", "spans", "many", "at", "there"] ["house"] (defScope sPlays) := ⟨rfl, rfl, rfl, by decide +kernel, rfl, by decide +kernel, by decide +kernel⟩
theorem SameX.keepD {P : Program} {w : World} {f : Addr} {H H' : Hp} {n : NT} (s : SameX f H H') (e : H f = some (NDo P w f n)) : KeepT H H' := fun b ys h => s b _ (fun z => by rw [z, e] at h; exact nomatch h) h
/-- how many states a layer in the making holds -/
theorem part_few {hs : List Lane} (o : HouseOk hs) {k j i : Nat} {s : List Span} {v : Int} (h : (lay hs k)[j]? = some (s, v)) : (((steps hs s).take i).foldl (addTo v) (((lay hs k).take j).foldl (spread hs) [])).length ≤ 10000 := by
  obtain ⟨n1, m1⟩ := spreadAll (hs := hs) ((lay hs k).take j) [] (by simp)
  obtain ⟨n2, m2⟩ := addAll (m := v) ((steps hs s).take i) _ n1
  have q := nodup_le _ ((lay hs (k + 1)).map (·.1)) n2 fun t ht => by
    refine mem_layer.mpr ?_
    rcases (m2 t).mp ht with a | a
    · rcases (m1 t).mp a with b | ⟨u, hu, ht⟩
      · simp at b
      · obtain ⟨p, hp, rfl⟩ := List.mem_map.mp hu
        exact ⟨p.1, List.mem_map.mpr ⟨p, List.mem_of_mem_take hp, rfl⟩, ht⟩
    · exact ⟨s, List.mem_map.mpr ⟨_, List.mem_of_getElem? h, rfl⟩, List.mem_of_mem_take a⟩
  rw [List.length_map, List.length_map] at q
  exact Nat.le_trans q (lay_few o (k + 1))
theorem lay_bound {hs : List Lane} (o : HouseOk hs) {k : Nat} (h : lay hs k ≠ []) : k ≤ 12 := by
  cases e : lay hs k with
  | nil => exact absurd e h
  | cons p r =>
    obtain ⟨rc, t⟩ := (lay_ok (hs := hs) k).2 p.1 (by rw [e]; simp)
    rw [← t]
    exact total_few o rc.valid
theorem tab_len (n : NT) : (tabOf n).length = n.length := by unfold tabOf; rw [List.length_map]
theorem tab_get {n : NT} {i : Nat} {p : List Span × Addr × Int} (h : n[i]? = some p) : (tabOf n)[i]? = some (p.1, p.2.2) := by
  unfold tabOf
  rw [List.getElem?_map, h]
  rfl
theorem tab_sum (n : NT) : sumN n = ((tabOf n).map (·.2)).sum := by
  unfold sumN tabOf
  rw [List.map_map]
  rfl
theorem addAll_snoc {m : Int} {ts : List (List Span)} {i : Nat} {t : List Span} {acc : Tab} (h : ts[i]? = some t) : (ts.take (i + 1)).foldl (addTo m) acc = addTo m ((ts.take i).foldl (addTo m) acc) t := by
  rw [List.take_add_one, h, List.foldl_append]
  rfl
theorem spread_snoc {hs : List Lane} {now : Tab} {i : Nat} {p : List Span × Int} (h : now[i]? = some p) : (now.take (i + 1)).foldl (spread hs) [] = (steps hs p.1).foldl (addTo p.2) ((now.take i).foldl (spread hs) []) := by
  rw [List.take_add_one, h, List.foldl_append]
  rfl
section
variable {P : Program} {w : World} {K : PySem.W.Frag} {mg : Str → Option Value} {base : Heap}
def spPlays : Sp := fun vs H Q _ => ∃ h hs, vs = [.ref h] ∧ HouseAt H h hs ∧ HouseOk hs ∧ ∀ H' k, Same H H' → lay hs k ≠ [] → lay hs (k + 1) = [] → Q (.int ((lay hs k).map (·.2)).sum) H'
theorem ok_plays {f fS : Addr} {fd fdS : FuncData} (D : Df K mg "house_plays" sPlays ["house"] f fd) (DS : Df K mg "house_steps" sHS ["house", "spans"] fS fdS) (X : Hd K mg) (N : Nd K mg) (B : Bt mg) {ts : Tok} (gs : mg "MOST_STATES" = some (.int 20000 ts)) :
    FnOk P w K mg base CX0 5 f fd ["house"] spPlays := by
  obtain ⟨fN, fdN, DN, GN⟩ := N.ok (P := P) (w := w) (base := base) B
  have GS : FnOk P w K mg base CX0 4 fS fdS ["house", "spans"] spHS := ok_hs DS X B
  refine D.F.ok scPlays (fun vs H Q E h => ?_) (fun cdv A outer s H vs Q E hr h => ?_)
  · obtain ⟨h, hs, rfl, _⟩ := h
    rfl
  · obtain ⟨h, hs, rfl, ha, o, q⟩ := h
    have hu := hu8 hr
    refine ⟨_, pss_cons (ps_expr (pe_call GN hr (by rfl) DN.g DN.F.kp DN.b .nil pass0 (pa_cons (pv 0) pa_nil)))
      (pss_cons (ps_set (i := 1) scPlays.nd rfl (.inl rfl) (pe_none1 hu (pe_op op_rep (pe_tup (pa_cons (pe_tup (pa_cons pe_int (pa_cons pe_int pa_nil))) pa_nil)) (pe_callB call_len_seq (by rfl) B.len PySem.boot_len (pa_cons (pv 0) pa_nil))) pe_int))
      (pss_one (ps_while PassesOwn.never (pt_val pe_bl)
        (pss_cons (ps_set (i := 2) scPlays.nd rfl (.inl rfl) pe_nnew)
        (pss_cons (ps_lock (ps_for PassesOwn.never rfl (pi_nitems (pv 1)) (pg_tup rfl (pgs_cons (pg_name (i := 3) scPlays.nd rfl (.inl rfl)) (pgs_cons (pg_name (i := 4) scPlays.nd rfl (.inl rfl)) pgs_nil)))
          (pss_one (ps_for PassesOwn.never rfl (pi_list (pe_call GS hr (by rfl) DS.g DS.F.kp DS.b .nil pass0 (pa_cons (pv 0) (pa_cons (pv 3) pa_nil)))) (pg_tup rfl (pgs_cons (pg_name (i := 5) scPlays.nd rfl (.inl rfl)) (pgs_cons (pg_name (i := 6) scPlays.nd rfl (.inl rfl)) pgs_nil)))
            (pss_one (ps_nput hu (pv 2) (pv 6) (pe_op op_add (pe_ngetOr hu (pv 2) (pv 6) pe_int ⟨rfl, rfl, rfl, rfl⟩) (pv 4)) rfl))))))
        (pss_cons (ps_if (pt_cmpR (op_nEq (lt_of1 (hu_of hr))) (pv 2) pe_dnewK (nomark _)) (pss_one (ps_ret (pe_callB (cr_nsum rfl) (by rfl) B.sum (by decide +kernel) (pa_cons (pe_nvals (pv 1)) pa_nil)))) pss_nil)
        (pss_cons (ps_if (pt_cmpR op_gt (pe_callB cr_nlen (by rfl) B.len PySem.boot_len (pa_cons (pv 2) pa_nil)) (pe_glob (v := .int 20000) (by rfl) gs ⟨ts, rfl⟩) (nomark _)) pss_never pss_nil)
        (pss_one (ps_set (i := 1) scPlays.nd rfl (.inl rfl) (pv 2)))))))))), ?_⟩
    obtain ⟨ps, eh, rh⟩ := id ha
    have l1 : ps.length = hs.length := Paired.length rh
    have one := o.one
    have few := o.few
    refine ⟨_, rfl, h, hs, rfl, ha, o, fun H1 sm1 => ?_⟩
    -- the first layer
    dsimp only
    refine seq_asg fun n0 nn0 => ?_
    have smn : Same H1 (upd H1 n0 (NDo P w n0 [])) := same_new nn0
    have en : upd H1 n0 (NDo P w n0 []) n0 = some (NDo P w n0 []) := upd_same
    have nH0 : H n0 = none := sm1.free nn0
    refine read_zeros (K := K) (n := hs.length) one (by omega) (fun H2 k sm2 hk => ⟨_, rfl, h, _, rfl, .inr (.inl (.inl (sm2 _ _ (smn _ _ (sm1 _ _ eh))))), ?_⟩) fun b H2 sm2 sb => ?_
    · rw [List.length_map, l1]
      exact hk
    refine ⟨b, zeros hs.length, 1, rfl, sb, sm2 _ _ en, ?_⟩
    have sm02 : Same H H2 := sm1.trans (smn.trans sm2)
    -- the loop
    refine ⟨fun m σ Hz => ∃ k n nt y2 y3 y4 y5 y6, σ = [some (.ref h), some (.ref n), y2, y3, y4, y5, y6] ∧ Same H Hz ∧ H n = none ∧ Hz n = some (NDo P w n nt) ∧ KeysAt Hz nt ∧ tabOf nt = lay hs k ∧ lay hs k ≠ [] ∧ m = 13 - k,
      ⟨_, 0, n0, [(zeros hs.length, b, 1)], _, _, _, _, _, rfl, ?_, nH0, upd_same, ?_, rfl, by simp [lay], rfl⟩, fun m σ Hz z => ?_⟩
    · intro c x hc
      rw [upd_ne (fun z => by rw [z, nH0] at hc; cases hc)]
      exact sm02 _ _ hc
    · intro p hp
      have e : p = (zeros hs.length, b, 1) := by simpa using hp
      rw [e]
      exact (nd_keepT (sm2 _ _ en)).spt sb
    obtain ⟨k, n, nt, y2, y3, y4, y5, y6, rfl, sm, nHn, ent, ks, tb, ne, rfl⟩ := z
    have kb := lay_bound o ne
    refine ⟨true, rfl, iteT ⟨fun σ' H' => ∃ n nt y2 y3 y4 y5 y6, σ' = [some (.ref h), some (.ref n), y2, y3, y4, y5, y6] ∧ Same H H' ∧ H n = none ∧ H' n = some (NDo P w n nt) ∧ KeysAt H' nt ∧ tabOf nt = lay hs (k + 1) ∧ lay hs (k + 1) ≠ [], fun σ' H' z => ?_, fun d nd => ?_⟩⟩
    · obtain ⟨n', nt', z2, z3, z4, z5, z6, e1, e2, e3, e4, e5, e6, e7⟩ := z
      exact ⟨13 - (k + 1), by omega, k + 1, n', nt', z2, z3, z4, z5, z6, e1, e2, e3, e4, e5, e6, e7, rfl⟩
    have smd : Same Hz (upd Hz d (NDo P w d [])) := same_new nd
    have ed : upd Hz d (NDo P w d []) d = some (NDo P w d []) := upd_same
    have nHd : H d = none := sm.free nd
    have ena : (upd Hz d (NDo P w d [])) n = some (NDo P w n nt) := smd _ _ ent
    have ndn : d ≠ n := fun z => by rw [z, ent] at nd; cases nd
    have sma : Same H (upd Hz d (NDo P w d [])) := sm.trans smd
    -- now is locked while the loop goes over it
    refine ⟨n, _, ena, trivial, fun od => ?_⟩
    have sxl : SameX n (upd Hz d (NDo P w d [])) (upd (upd Hz d (NDo P w d [])) n (.frz od (NDo P w n nt))) := SameX.upd _ _ _
    have enl : upd (upd Hz d (NDo P w d [])) n (.frz od (NDo P w n nt)) n = some (.frz od (NDo P w n nt)) := upd_same
    have edl : upd (upd Hz d (NDo P w d [])) n (.frz od (NDo P w n nt)) d = some (NDo P w d []) := by rw [upd_ne ndn]; exact ed
    have kal : KeepT (upd Hz d (NDo P w d [])) (upd (upd Hz d (NDo P w d [])) n (.frz od (NDo P w n nt))) := sxl.keepD ena
    have kHl : KeepT H (upd (upd Hz d (NDo P w d [])) n (.frz od (NDo P w n nt))) := (keep_same sma).trans kal
    have ksl : KeysAt (upd (upd Hz d (NDo P w d [])) n (.frz od (NDo P w n nt))) nt := kal.keys ((keep_same smd).keys ks)
    refine ⟨_, rfl, n, od, nt, rfl, enl, ?_⟩
    have keepX : ∀ {Hx}, SameX d (upd (upd Hz d (NDo P w d [])) n (.frz od (NDo P w n nt))) Hx → KeepT (upd (upd Hz d (NDo P w d [])) n (.frz od (NDo P w n nt))) Hx := fun sx => sx.keepD edl
    refine for_it walk_ni (fun j σ Hx => (∃ y3 y4 y5 y6, σ = [some (.ref h), some (.ref n), some (.ref d), y3, y4, y5, y6]) ∧ SameX d (upd (upd Hz d (NDo P w d [])) n (.frz od (NDo P w n nt))) Hx ∧ ∃ lt, Hx d = some (NDo P w d lt) ∧ KeysAt Hx lt ∧ tabOf lt = ((lay hs k).take j).foldl (spread hs) [])
      ⟨⟨_, _, _, _, rfl⟩, SameX.refl _ _, [], edl, (fun p hp => nomatch hp), rfl⟩ (fun j σ Hx _ z => z.2.1 _ _ ndn.symm enl) (fun j x σ Hx Hy hj z y => ?_) fun σ Hx z => ?_
    · obtain ⟨⟨y3, y4, y5, y6, rfl⟩, sx, lt, elt, kl, tl⟩ := z
      obtain ⟨T, p, hp, rfl, nT, rfl⟩ := y
      have tp := tab_get hp
      rw [tb] at tp
      have smT : Same Hx (upd Hx T (.tup [.ref p.2.1, .int p.2.2])) := same_new nT
      have eT : upd Hx T (.tup [.ref p.2.1, .int p.2.2]) T = some (.tup [.ref p.2.1, .int p.2.2]) := upd_same
      generalize upd Hx T (.tup [.ref p.2.1, .int p.2.2]) = Hy at smT eT
      obtain ⟨s, b1, v⟩ := p
      have rcs : Reach hs s := ((lay_ok (hs := hs) k).2 s (List.mem_map.mpr ⟨_, List.mem_of_getElem? tp, rfl⟩)).1
      have kly : KeepT (upd (upd Hz d (NDo P w d [])) n (.frz od (NDo P w n nt))) Hy := (keepX sx).trans (keep_same smT)
      have sps : SpT Hy b1 s := kly.spt (ksl (s, b1, v) (List.mem_of_getElem? hp))
      refine ⟨T, _, rfl, .inl (.inl eT), rfl, _, _, rfl, _, _, rfl, rfl, ?_⟩
      refine ⟨_, rfl, _, rfl, h, hs, b1, s, rfl, (kHl.trans kly).house ha, o, sps, rcs.valid, fun H3 l rs sm3 el pr => ?_⟩
      have sx3 : SameX d (upd (upd Hz d (NDo P w d [])) n (.frz od (NDo P w n nt))) H3 := (sx.trans (.of smT)).trans (.of sm3)
      have elt3 : H3 d = some (NDo P w d lt) := sm3 _ _ (smT _ _ elt)
      have nld : l ≠ d := fun z => by rw [z, elt3] at el; exact nomatch el
      have k3 : KeepT Hx H3 := keep_same (smT.trans sm3)
      refine ⟨l, rfl, ⟨_, .inl (.inl el)⟩, ?_⟩
      refine for_it (walk_list (xs := rs.map V.ref)) (fun i σ Hw => (∃ y5 y6, σ = [some (.ref h), some (.ref n), some (.ref d), some (.ref b1), some (.int v), y5, y6]) ∧ SameX d H3 Hw ∧ ∃ lt, Hw d = some (NDo P w d lt) ∧ KeysAt Hw lt ∧ tabOf lt = ((steps hs s).take i).foldl (addTo v) (((lay hs k).take j).foldl (spread hs) []))
        ⟨⟨_, _, rfl⟩, SameX.refl _ _, lt, elt3, k3.keys kl, tl⟩ (fun i σ Hw _ z => .inl (.inl (z.2.1 _ _ nld el))) (fun i x σ Hw Hv hi z y => ?_) fun σ Hw z => ?_
      · obtain ⟨⟨y5, y6, rfl⟩, sxw, lt2, elw, klw, tlw⟩ := z
        obtain ⟨rfl, hx⟩ := y
        rw [List.getElem?_map] at hx
        cases hr2 : rs[i]? with
        | none => rw [hr2] at hx; cases hx
        | some r =>
          rw [hr2] at hx
          cases hx
          obtain ⟨t, ht, st⟩ := paired_get pr hr2
          have kw : KeepT H3 Hv := sxw.keepD elt3
          obtain ⟨i0, b2, e2, s2⟩ := kw.step st
          have fewl : lt2.length ≤ 10000 := by
            rw [← tab_len, tlw]
            exact part_few o tp
          refine ⟨r, _, rfl, .inl (.inl e2), rfl, _, _, rfl, _, _, rfl, rfl, ?_⟩
          refine ⟨_, rfl, d, lt2, rfl, .inl elw, _, rfl, b2, t, 0, rfl, rfl, .inl elw, klw, s2, _, rfl, _, _, rfl, rfl, _, rfl, _, rfl, d, lt2, b2, t, _, rfl, rfl, rfl, elw, klw, s2, by rw [sizeLine_eq]; omega, ?_⟩
          have kz : KeepT Hv (upd Hv d (NDo P w d (putN lt2 t b2 ((getN lt2 t).getD 0 + v)))) := nd_keepT elw
          refine ⟨⟨_, _, rfl⟩, sxw.trans (SameX.upd _ _ _), _, upd_same, kz.keys (putN_keys klw s2), ?_⟩
          rw [tab_put, getN_tab, tlw, addAll_snoc ht]
          rfl
      · obtain ⟨⟨y5, y6, rfl⟩, sxw, lt2, elw, klw, tlw⟩ := z
        have e := Paired.length pr
        rw [List.length_map, e, List.take_length] at tlw
        refine ⟨⟨_, _, _, _, rfl⟩, sx3.trans sxw, lt2, elw, klw, ?_⟩
        rw [tlw, spread_snoc tp]
    · obtain ⟨⟨y3, y4, y5, y6, rfl⟩, sx, lt, elt, kl, tl⟩ := z
      have tl : tabOf lt = lay hs (k + 1) := by
        rw [tl, ← tab_len, tb, List.take_length]
        rfl
      refine ⟨sx _ _ ndn.symm enl, ?_⟩
      -- unlocked
      have smu : ∀ b x, H b = some x → upd Hx n (NDo P w n nt) b = some x := fun b x hb => by
        rw [upd_ne (fun z => by rw [z, nHn] at hb; cases hb)]
        exact sx _ _ (fun z => by rw [z, nHd] at hb; cases hb) (sxl _ _ (fun z => by rw [z, nHn] at hb; cases hb) (sma _ _ hb))
      have eu : upd Hx n (NDo P w n nt) n = some (NDo P w n nt) := upd_same
      have edu : upd Hx n (NDo P w n nt) d = some (NDo P w d lt) := by rw [upd_ne ndn]; exact elt
      have klu : KeysAt (upd Hx n (NDo P w n nt)) lt := (upd_keepT fun xs z => by
        have e := sx _ _ ndn.symm enl
        rw [e] at z
        exact nomatch z).keys kl
      generalize upd Hx n (NDo P w n nt) = Hu at smu eu edu klu
      refine ⟨_, rfl, fun e ne2 => ⟨d, e, lt, rfl, rfl, .inl (same_new ne2 _ _ edu), upd_same, _, rfl, ?_⟩⟩
      have sme : Same Hu (upd Hu e (.dK [])) := same_new ne2
      generalize upd Hu e (.dK []) = He at sme
      have hlen : (lay hs (k + 1)).length = lt.length := by rw [← tl, tab_len]
      have lf := lay_few o (k + 1)
      show if lt.isEmpty = true then _ else _
      cases hlt : lt with
      | nil =>
        refine iteT ?_
        rw [hlt] at tl
        refine ⟨_, rfl, n, nt, rfl, .inl (sme _ _ eu), fun v nv => ⟨v, n, nt, rfl, upd_same, .inl (same_new nv _ _ (sme _ _ eu)), ?_⟩⟩
        rw [tab_sum, tb]
        exact q _ k (fun b x hb => same_new nv _ _ (sme _ _ (smu b x hb))) ne tl.symm
      | cons a r =>
        refine iteF ?_
        refine ⟨_, rfl, d, lt, rfl, .inl (sme _ _ edu), _, _, rfl, rfl, _, rfl, ?_⟩
        show if decide ((20000 : Int) < ((lt.length : Nat) : Int)) = true then _ else _
        rw [decide_eq_false (show ¬ (20000 : Int) < ((lt.length : Nat) : Int) by omega)]
        refine iteF ?_
        refine ⟨_, rfl, d, lt, _, _, _, _, _, rfl, fun b x hb => sme _ _ (smu b x hb), nHd, sme _ _ edu, (keep_same sme).keys klu, tl, fun z => ?_⟩
        rw [z] at hlen
        rw [hlt] at hlen
        cases hlen
end
end K76

set_option Elab.async false
set_option linter.all false
set_option maxRecDepth 100000
/-! k76: the law's own draws. -/
namespace K76
open PySem PySem.Spec PyProof.Rows L2
abbrev sTak : Stmt := topS 27
abbrev sPick : Stmt := topS 28
theorem scTak : FnScope ["_law_row", "_law_many", "_law_found", "_law_cell"] ["_law_row", "_law_many"] (defScope sTak) := ⟨rfl, rfl, rfl, by decide +kernel, rfl, by decide +kernel, by decide +kernel⟩
theorem scPick : FnScope ["_law_row", "_law_things"] ["_law_row", "_law_things"] (defScope sPick) := ⟨rfl, rfl, rfl, by decide +kernel, rfl, by decide +kernel, by decide +kernel⟩
/-- the script: locked, or of the written part -/
def ScAt (K : PySem.W.Frag) (H : Hp) (sc : Addr) (xs : List V) : Prop := (∃ o, H sc = some (.frz o (.lst xs))) ∨
  ∃ (o : Obj) (its : Array Value) (n : Nat), K.lookup sc = some o ∧ o.cls = .type "list" ∧ o.dict = none ∧ o.data = .seq its n ∧ its.size ≤ sizeLine ∧ Vals xs its.toList
theorem ScAt.sq {K : PySem.W.Frag} {H : Hp} {sc : Addr} {xs : List V} (h : ScAt K H sc xs) : SqL K H sc xs := h.imp (fun ⟨o, e⟩ => .inr ⟨o, e⟩) id
theorem ScAt.keep {K : PySem.W.Frag} {f : Addr} {H H' : Hp} {sc : Addr} {xs ys : List V} (h : ScAt K H sc xs) (s : SameX f H H') (e : H f = some (.lst ys)) : ScAt K H' sc xs :=
  h.imp (fun ⟨o, z⟩ => ⟨o, s _ _ (fun q => by rw [q, e] at z; cases z) z⟩) id
theorem ScAt.same {K : PySem.W.Frag} {H H' : Hp} {sc : Addr} {xs : List V} (h : ScAt K H sc xs) (s : Same H H') : ScAt K H' sc xs := h.imp (fun ⟨o, z⟩ => ⟨o, s _ _ z⟩) id
/-- the law's row: the script, the turns taken, two numbers -/
def RowOk (K : PySem.W.Frag) (r : Addr) (H : Hp) : Prop := ∃ (sc : Addr) (ns : List Int) (i j k : Int), H r = some (.lst [.ref sc, .int i, .int j, .int k]) ∧ 0 ≤ i ∧ ScAt K H sc (ns.map V.int) ∧ ns.length ≤ 63
section
variable {P : Program} {w : World} {K : PySem.W.Frag} {mg : Str → Option Value} {base : Heap}
def spTak (K : PySem.W.Frag) : Sp := fun vs H Q _ => ∃ r m, vs = [.ref r, .int m] ∧ 1 ≤ m ∧ m ≤ 1000 ∧ RowOk K r H ∧ ∀ v H', 0 ≤ v → v < m → SameX r H H' → RowOk K r H' → Q (.int v) H'
theorem ok_tak {f : Addr} {fd : FuncData} {k : Nat} (D : Df K mg "_law_taken" sTak ["_law_row", "_law_many"] f fd) (B : Bt mg) : FnOk P w K mg base CX0 (k + 1) f fd ["_law_row", "_law_many"] (spTak K) := by
  refine D.F.ok scTak (fun vs H Q E h => ?_) (fun cdv A outer s H vs Q E hr h => ?_)
  · obtain ⟨r, m, rfl, _⟩ := h
    rfl
  · obtain ⟨r, m, rfl, h1, h2, ⟨sc, ns, i, j, k, er, hi, hsc, hl⟩, q⟩ := h
    refine ⟨_, pss_cons (ps_if (pt_cmpR op_gt (pe_ix ix_list (pv 0) pe_int (fun _ _ => rfl)) pe_int (nomark _))
        (pss_cons (ps_set (i := 2) scTak.nd rfl (.inl rfl) (pe_op op_mod (pe_callTy call_int1 (by rfl) B.int (by decide +kernel) (pa_cons (pe_ix ix_list (pv 0) pe_int (fun _ _ => rfl)) pa_nil)) (pv 1)))
        (pss_cons (ps_asg (pe_op op_fdiv (pe_ix ix_list (pv 0) pe_int (fun _ _ => rfl)) (pv 1)) (pg_sub (pv 0) pe_int set_list (fun _ => rfl)))
        (pss_one (ps_ret (pv 2))))) pss_nil)
      (pss_cons (ps_asg (pe_op op_add (pe_ix ix_list (pv 0) pe_int (fun _ _ => rfl)) pe_int) (pg_sub (pv 0) pe_int set_list (fun _ => rfl)))
      (pss_cons (ps_if (pt_cmpR op_gt (pe_ix ix_list (pv 0) pe_int (fun _ _ => rfl)) (pe_callB call_len_seq (by rfl) B.len PySem.boot_len (pa_cons (pe_ix ix_list (pv 0) pe_int (fun _ _ => rfl)) pa_nil)) (nomark _))
        (pss_cons (ps_asg (pe_op op_mod (pe_callTy call_int1 (by rfl) B.int (by decide +kernel) (pa_cons (pe_op op_add (pe_op op_mul (pe_ix ix_list (pv 0) pe_int (fun _ _ => rfl)) pe_int) pe_int) pa_nil)) pe_int) (pg_sub (pv 0) pe_int set_list (fun _ => rfl)))
        (pss_one (ps_ret (pe_op op_mod (pe_callTy call_int1 (by rfl) B.int (by decide +kernel) (pa_cons (pe_op op_fdiv (pe_ix ix_list (pv 0) pe_int (fun _ _ => rfl)) pe_int) pa_nil)) (pv 1))))) pss_nil)
      (pss_cons (ps_set (i := 3) scTak.nd rfl (.inl rfl) (pe_ix ix_list (pe_ix ix_list (pv 0) pe_int (fun _ _ => rfl)) (pe_op op_sub (pe_ix ix_list (pv 0) pe_int (fun _ _ => rfl)) pe_int) (fun _ _ => rfl)))
      (pss_cons (ps_asg (pe_op op_mod (pe_callTy call_int1 (by rfl) B.int (by decide +kernel) (pa_cons (pe_op op_add (pe_op op_add (pe_op op_mul (pe_ix ix_list (pv 0) pe_int (fun _ _ => rfl)) pe_int) (pv 3)) pe_int) pa_nil)) pe_int) (pg_sub (pv 0) pe_int set_list (fun _ => rfl)))
      (pss_cons (ps_if (pt_cmpR op_ge (pv 3) (pe_op op_pow pe_int pe_int) (nomark _)) (pss_one (ps_asg (pe_op op_fdiv (pv 3) (pv 1)) (pg_sub (pv 0) pe_int set_list (fun _ => rfl)))) pss_nil)
      (pss_one (ps_ret (pe_op op_mod (pe_callTy call_int1 (by rfl) B.int (by decide +kernel) (pa_cons (pv 3) pa_nil)) (pv 1))))))))), ?_⟩
    have hm0 : (0 : Int) < m := by omega
    have hm1 : m < 1073741824 := by omega
    have s0 : ∀ {Hc xs}, Hc r = some (.lst xs) → SqL K Hc r xs := fun e => .inl (.inl e)
    have vmod : ∀ a : Int, 0 ≤ a % m ∧ a % m < m := fun a => ⟨Int.emod_nonneg _ (by omega), Int.emod_lt_of_pos _ hm0⟩
    refine ⟨_, rfl, r, _, 3, _, rfl, rfl, s0 er, atI_nat (j := 3) rfl, _, _, rfl, rfl, _, rfl, ite2 (fun _ => ?_) fun _ => ?_⟩
    · refine ⟨_, rfl, r, _, 3, _, rfl, rfl, s0 er, atI_nat (j := 3) rfl, .inl ⟨_, rfl, _, rfl, _, _, rfl, rfl, hm0, ?_⟩⟩
      refine ⟨_, rfl, r, _, 3, _, rfl, rfl, s0 er, atI_nat (j := 3) rfl, _, rfl, _, _, rfl, rfl, ⟨hm0, hm1⟩, _, rfl, r, _, 3, 3, rfl, rfl, er, rfl, _, rfl, ?_⟩
      exact q _ _ (vmod k).1 (vmod k).2 (SameX.upd _ _ _) ⟨sc, ns, i, j, _, upd_same, hi, hsc.keep (SameX.upd _ _ _) er, hl⟩
    · refine ⟨_, rfl, r, _, 1, _, rfl, rfl, s0 er, atI_nat (j := 1) rfl, _, _, rfl, rfl, _, rfl, r, _, 1, 1, rfl, rfl, er, rfl, ?_⟩
      have e1 : upd H r (.lst ([V.ref sc, .int i, .int j, .int k].set 1 (.int (i + 1)))) r = some (.lst [.ref sc, .int (i + 1), .int j, .int k]) := upd_same
      have x1 : SameX r H (upd H r (.lst ([V.ref sc, .int i, .int j, .int k].set 1 (.int (i + 1))))) := SameX.upd _ _ _
      generalize upd H r (.lst ([V.ref sc, .int i, .int j, .int k].set 1 (.int (i + 1)))) = H1 at e1 x1
      have c1 := hsc.keep x1 er
      refine ⟨_, rfl, r, _, 1, _, rfl, rfl, s0 e1, atI_nat (j := 1) rfl, _, rfl, r, _, 0, _, rfl, rfl, s0 e1, atI_nat (j := 0) rfl, sc, _, rfl, .inl c1.sq, _, _, rfl, rfl, _, rfl, ite2 (fun _ => ?_) fun hlt => ?_⟩
      · refine ⟨_, rfl, r, _, 2, _, rfl, rfl, s0 e1, atI_nat (j := 2) rfl, _, _, rfl, rfl, .inr ⟨by decide, by decide⟩, _, _, rfl, rfl, .inl ⟨_, rfl, _, _, rfl, rfl, (by show (0 : Int) < 2147483647; decide), _, rfl, r, _, 2, 2, rfl, rfl, e1, rfl, ?_⟩⟩
        have e2 : upd H1 r (.lst ([V.ref sc, .int (i + 1), .int j, .int k].set 2 (.int ((j * 48271 + 11) % 2147483647)))) r = some (.lst [.ref sc, .int (i + 1), .int ((j * 48271 + 11) % 2147483647), .int k]) := upd_same
        have x2 : SameX r H1 (upd H1 r (.lst ([V.ref sc, .int (i + 1), .int j, .int k].set 2 (.int ((j * 48271 + 11) % 2147483647))))) := SameX.upd _ _ _
        generalize upd H1 r (.lst ([V.ref sc, .int (i + 1), .int j, .int k].set 2 (.int ((j * 48271 + 11) % 2147483647)))) = H2 at e2 x2
        refine ⟨_, rfl, r, _, 2, _, rfl, rfl, s0 e2, atI_nat (j := 2) rfl, _, _, rfl, rfl, ⟨by decide, by decide⟩, .inl ⟨_, rfl, _, rfl, _, _, rfl, rfl, hm0, ?_⟩⟩
        exact q _ _ (vmod _).1 (vmod _).2 (x1.trans x2) ⟨sc, ns, _, _, _, e2, by omega, c1.keep x2 e1, hl⟩
      · have lt : i.toNat < ns.length := by
          have hlt : ¬ decide ((((ns.map V.int).length : Nat) : Int) < i + 1) = true := hlt
          rw [List.length_map, decide_eq_true_eq] at hlt
          omega
        have at0 : atI (ns.map V.int) (i + 1 - 1) = some (.int ns[i.toNat]) := by
          rw [show i + 1 - 1 = ((i.toNat : Nat) : Int) by omega]
          refine atI_nat ?_
          rw [List.getElem?_map, List.getElem?_eq_getElem lt]
          rfl
        refine ⟨_, rfl, r, _, 0, _, rfl, rfl, s0 e1, atI_nat (j := 0) rfl, _, rfl, r, _, 1, _, rfl, rfl, s0 e1, atI_nat (j := 1) rfl, _, _, rfl, rfl, sc, _, _, _, rfl, rfl, c1.sq, at0, ?_⟩
        generalize ns[i.toNat] = c
        refine ⟨_, rfl, r, _, 2, _, rfl, rfl, s0 e1, atI_nat (j := 2) rfl, _, _, rfl, rfl, .inr ⟨by decide, by decide⟩, _, rfl, _, _, rfl, rfl, _, _, rfl, rfl, .inl ⟨_, rfl, _, _, rfl, rfl, (by show (0 : Int) < 2147483647; decide), _, rfl, r, _, 2, 2, rfl, rfl, e1, rfl, ?_⟩⟩
        have e2 : upd H1 r (.lst ([V.ref sc, .int (i + 1), .int j, .int k].set 2 (.int ((j * 48271 + c + 11) % 2147483647)))) r = some (.lst [.ref sc, .int (i + 1), .int ((j * 48271 + c + 11) % 2147483647), .int k]) := upd_same
        have x2 : SameX r H1 (upd H1 r (.lst ([V.ref sc, .int (i + 1), .int j, .int k].set 2 (.int ((j * 48271 + c + 11) % 2147483647))))) := SameX.upd _ _ _
        generalize upd H1 r (.lst ([V.ref sc, .int (i + 1), .int j, .int k].set 2 (.int ((j * 48271 + c + 11) % 2147483647)))) = H2 at e2 x2
        have c2 := c1.keep x2 e1
        refine ⟨_, rfl, _, _, rfl, rfl, ⟨by decide, by decide, by decide⟩, _, _, rfl, rfl, _, rfl, ite2 (fun _ => ?_) fun _ => ?_⟩
        · refine ⟨_, rfl, _, rfl, _, _, rfl, rfl, ⟨hm0, hm1⟩, _, rfl, r, _, 3, 3, rfl, rfl, e2, rfl, ?_⟩
          refine ⟨_, rfl, .inl ⟨_, rfl, _, rfl, _, _, rfl, rfl, hm0, ?_⟩⟩
          exact q _ _ (vmod c).1 (vmod c).2 (x1.trans (x2.trans (SameX.upd _ _ _))) ⟨sc, ns, _, _, _, upd_same, by omega, c2.keep (SameX.upd _ _ _) e2, hl⟩
        · refine ⟨_, rfl, .inl ⟨_, rfl, _, rfl, _, _, rfl, rfl, hm0, ?_⟩⟩
          exact q _ _ (vmod c).1 (vmod c).2 (x1.trans x2) ⟨sc, ns, _, _, _, e2, by omega, c2, hl⟩
end
end K76

set_option Elab.async false
set_option linter.all false
set_option maxRecDepth 100000
/-! k76: the law's picks and lanes. -/
namespace K76
open PySem PySem.Spec PyProof.Rows L2
abbrev sLane : Stmt := topS 30
theorem scLane : FnScope ["_law_row", "_law_most", "_law_many", "_law_kinds", "_law_things", "_law_at", "_law_thing", "_law_turn"] ["_law_row", "_law_most"] (defScope sLane) := ⟨rfl, rfl, rfl, by decide +kernel, rfl, by decide +kernel, by decide +kernel⟩
theorem cut_totx {cs : List Nat} {k : Nat} (h : k ≤ cs.length) : cutS (tx cs) none (some (k : Nat)) = tx (cs.take k) := by
  unfold cutS
  rw [tx_len, HT.sIx_none, show HT.sIx cs.length cs.length (some ((k : Nat) : Int)) = min k cs.length from HT.sIx_nat cs.length cs.length k, Nat.min_eq_left h]
  rfl
section
variable {P : Program} {w : World} {K : PySem.W.Frag} {mg : Str → Option Value} {base : Heap}
def spPick (K : PySem.W.Frag) : Sp := fun vs H Q _ => ∃ r x, vs = [.ref r, x] ∧ RowOk K r H ∧
  ((∃ cs, x = .str (tx cs) ∧ cs ≠ [] ∧ cs.length ≤ 100 ∧ ∀ c H', c ∈ cs → SameX r H H' → RowOk K r H' → Q (.str (t1 c)) H') ∨
   (∃ l zs, x = .ref l ∧ l ≠ r ∧ H l = some (.lst (zs.map V.int)) ∧ zs ≠ [] ∧ zs.length ≤ 100 ∧ ∀ z H', z ∈ zs → SameX r H H' → RowOk K r H' → Q (.int z) H'))
theorem len_pos {α : Type} {l : List α} (h : l ≠ []) : 1 ≤ l.length := List.length_pos_iff.mpr h
theorem ok_pick {f fT : Addr} {fd fdT : FuncData} {k : Nat} (D : Df K mg "_law_pick" sPick ["_law_row", "_law_things"] f fd) (DT : Df K mg "_law_taken" sTak ["_law_row", "_law_many"] fT fdT) (B : Bt mg) : FnOk P w K mg base CX0 (k + 2) f fd ["_law_row", "_law_things"] (spPick K) := by
  have GT : FnOk P w K mg base CX0 (k + 1) fT fdT ["_law_row", "_law_many"] (spTak K) := ok_tak DT B
  refine D.F.ok scPick (fun vs H Q E h => ?_) (fun cdv A outer s H vs Q E hr h => ?_)
  · obtain ⟨r, x, rfl, _⟩ := h
    rfl
  · obtain ⟨r, x, rfl, ro, h⟩ := h
    rcases h with ⟨cs, rfl, ne, few, q⟩ | ⟨l, zs, rfl, nl, el, ne, few, q⟩
    · have hz : (tx cs).length ≤ sizeLine := by rw [tx_len, sizeLine_eq]; omega
      have p1 := len_pos ne
      refine ⟨_, pss_one (ps_ret (pe_ix ix_str (pv 1) (pe_call GT hr (by rfl) DT.g DT.F.kp DT.b .nil pass0 (pa_cons (pv 0) (pa_cons (pe_callB call_len_str (by rfl) B.len PySem.boot_len (pa_cons (pv 1) pa_nil)) pa_nil))) (fun _ _ => rfl))), ?_⟩
      refine ⟨_, rfl, _, rfl, _, rfl, tx cs, rfl, hz, r, _, rfl, ?_, ?_, ro, fun v H' h0 h1 sx ro' => ?_⟩
      · rw [tx_len]; omega
      · rw [tx_len]; omega
      rw [tx_len] at h1
      obtain ⟨j, rfl⟩ := Int.eq_ofNat_of_zero_le h0
      have lt : j < cs.length := by omega
      refine ⟨tx cs, _, cs[j], rfl, rfl, hz, ?_, q _ H' (List.getElem_mem lt) sx ro'⟩
      exact atI_nat (xs := cs) (List.getElem?_eq_getElem lt)
    · have p1 := len_pos ne
      refine ⟨_, pss_one (ps_ret (pe_ix ix_list (pv 1) (pe_call GT hr (by rfl) DT.g DT.F.kp DT.b .nil pass0 (pa_cons (pv 0) (pa_cons (pe_callB call_len_seq (by rfl) B.len PySem.boot_len (pa_cons (pv 1) pa_nil)) pa_nil))) (fun _ _ => rfl))), ?_⟩
      refine ⟨_, rfl, _, rfl, _, rfl, l, _, rfl, .inl (.inl (.inl el)), r, _, rfl, ?_, ?_, ro, fun v H' h0 h1 sx ro' => ?_⟩
      · rw [List.length_map]; omega
      · rw [List.length_map]; omega
      rw [List.length_map] at h1
      obtain ⟨j, rfl⟩ := Int.eq_ofNat_of_zero_le h0
      have lt : j < zs.length := by omega
      refine ⟨l, _, _, .int zs[j], rfl, rfl, .inl (.inl (sx _ _ nl el)), ?_, q _ H' (List.getElem_mem lt) sx ro'⟩
      refine atI_nat ?_
      rw [List.getElem?_map, List.getElem?_eq_getElem lt]
      rfl
theorem RowOk.ne {r : Addr} {H : Hp} (h : RowOk K r H) {p : Addr} (n : H p = none) : p ≠ r := fun z => by
  obtain ⟨_, _, _, _, _, e, _⟩ := h
  rw [z, e] at n
  cases n
theorem RowOk.same {r : Addr} {H H' : Hp} (h : RowOk K r H) (s : Same H H') : RowOk K r H' := by
  obtain ⟨sc, ns, i, j, k, e, h1, h2, h3⟩ := h
  exact ⟨sc, ns, i, j, k, s _ _ e, h1, h2.same s, h3⟩
theorem RowOk.keepL {r f : Addr} {H H' : Hp} {ys : List V} (h : RowOk K r H) (s : SameX f H H') (e : H f = some (.lst ys)) (n : r ≠ f) : RowOk K r H' := by
  obtain ⟨sc, ns, i, j, k, e1, h1, h2, h3⟩ := h
  exact ⟨sc, ns, i, j, k, s _ _ n e1, h1, h2.keep s e, h3⟩
theorem kinds_mem {c : Nat} (h : c ∈ kinds) : 97 ≤ c ∧ c ≤ 108 := by
  unfold kinds at h
  simp only [List.mem_cons, List.not_mem_nil, or_false] at h
  omega
def spLane (K : PySem.W.Frag) : Sp := fun vs H Q _ => ∃ r m, vs = [.ref r, .int m] ∧ 1 ≤ m ∧ m ≤ 4 ∧ RowOk K r H ∧ ∀ p l H', LaneOk l → LaneAt H' p l → SameX r H H' → RowOk K r H' → Q (.ref p) H'
theorem ok_lane {f fP fT : Addr} {fd fdP fdT : FuncData} (D : Df K mg "_law_lane" sLane ["_law_row", "_law_most"] f fd) (DP : Df K mg "_law_pick" sPick ["_law_row", "_law_things"] fP fdP) (DT : Df K mg "_law_taken" sTak ["_law_row", "_law_many"] fT fdT) (B : Bt mg) :
    FnOk P w K mg base CX0 3 f fd ["_law_row", "_law_most"] (spLane K) := by
  have GT : FnOk P w K mg base CX0 2 fT fdT ["_law_row", "_law_many"] (spTak K) := ok_tak DT B
  have GP : FnOk P w K mg base CX0 2 fP fdP ["_law_row", "_law_things"] (spPick K) := ok_pick DP DT B
  refine D.F.ok scLane (fun vs H Q E h => ?_) (fun cdv A outer s H vs Q E hr h => ?_)
  · obtain ⟨r, m, rfl, _⟩ := h
    rfl
  · obtain ⟨r, m, rfl, h1, h2, ro, q⟩ := h
    refine ⟨_, pss_cons (ps_asg (pe_tup (pa_cons (pe_op op_add pe_int (pe_call GT hr (by rfl) DT.g DT.F.kp DT.b .nil pass0 (pa_cons (pv 0) (pa_cons (pv 1) pa_nil)))) (pa_cons (pe_op op_add pe_int (pe_call GT hr (by rfl) DT.g DT.F.kp DT.b .nil pass0 (pa_cons (pv 0) (pa_cons pe_int pa_nil)))) pa_nil)))
        (pg_tup rfl (pgs_cons (pg_name (i := 2) scLane.nd rfl (.inl rfl)) (pgs_cons (pg_name (i := 3) scLane.nd rfl (.inr rfl)) pgs_nil))))
      (pss_cons (ps_set (i := 4) scLane.nd rfl (.inl rfl) (pe_lst pa_nil))
      (pss_cons (ps_for PassesOwn.never rfl (pi_range1 (by rfl) B.range (pa_cons (pe_op op_sub (pe_op op_mul pe_int (pv 2)) pe_int) pa_nil)) (pg_name (i := 5) scLane.nd rfl (.inl rfl))
        (pss_cons (ps_setLc (i := 6) (own := [("_law_turn", 7)]) (g := gName 7) (tt := tYes) rfl scLane.nd rfl rfl (sw_true rfl rfl rfl (by decide +kernel)) (pi_range1 (by rfl) B.range (pa_cons (pe_call GP hr (by rfl) DP.g DP.F.kp DP.b .nil pass0 (pa_cons (pv 0) (pa_cons (pe_lst (pa_cons pe_int (pa_cons pe_int (pa_cons pe_int (pa_cons pe_int (pa_cons pe_int pa_nil)))))) pa_nil))) pa_nil))
            (blkOk_by (N := ["_law_row", "_law_most", "_law_many", "_law_kinds", "_law_things", "_law_at", "_law_thing", "_law_turn"]) (sc := defScope sLane) (by decide +kernel)) (fun _ _ _ _ _ => pg_name (i := 7) scLane.nd rfl (Or.inl rfl)) (fun _ _ _ _ _ => pts_nil)
            (fun _ _ _ _ _ => pe_call GP hr (by rfl) DP.g DP.F.kp DP.b .nil pass0 (pa_cons (pv 0) (pa_cons (pe_slice sl_str pe_str po_none (po_some (pv 3))) pa_nil))))
        (pss_one (ps_expr (pe_bm PySem.F.plainAttrs_list PySem.F.slot_list_append PySem.F.type_list_append mt_append (pv 4) (pa_cons (pe_join pe_str (pe_callB (cr_ssorted rfl) (by rfl) B.sorted (by decide +kernel) (pa_cons (pe_callTy (cr_sset rfl) (by rfl) B.set (by decide +kernel) (pa_cons (pv 6) pa_nil)) pa_nil))) pa_nil))))))
      (pss_one (ps_ret (pe_tup (pa_cons (pe_call GT hr (by rfl) DT.g DT.F.kp DT.b .nil pass0 (pa_cons (pv 0) (pa_cons (pv 2) pa_nil))) (pa_cons (pe_callTy call_tuple_of (by rfl) B.tuple (by decide +kernel) (pa_cons (pv 4) pa_nil)) pa_nil))))))), ?_⟩
    -- how many rooms, how many kinds
    refine ⟨_, rfl, _, rfl, r, m, rfl, h1, by omega, ro, fun v1 H1 a1 b1 sx1 ro1 => ?_⟩
    refine ⟨_, _, rfl, rfl, _, rfl, r, 6, rfl, by decide, by decide, ro1, fun v2 H2 a2 b2 sx2 ro2 => ?_⟩
    refine ⟨_, _, rfl, rfl, (by show 2 ≤ sizeLine; decide), fun T nT => ⟨T, _, rfl, .inl (.inl upd_same), rfl, _, _, rfl, _, _, rfl, rfl, ?_⟩⟩
    obtain ⟨a, rfl⟩ := Int.eq_ofNat_of_zero_le a1
    obtain ⟨c, rfl⟩ := Int.eq_ofNat_of_zero_le a2
    have sxT : SameX r H (upd H2 T (.tup [.int (1 + (a : Nat)), .int (1 + (c : Nat))])) := (sx1.trans sx2).trans (.of (same_new nT))
    have roT := ro2.same (same_new (o := .tup [.int (1 + (a : Nat)), .int (1 + (c : Nat))]) nT)
    generalize upd H2 T (.tup [.int (1 + (a : Nat)), .int (1 + (c : Nat))]) = H3 at sxT roT
    -- things
    refine ⟨Nat.zero_le _, fun f nf => ?_⟩
    have nfr : f ≠ r := roT.ne nf
    have nHf : H f = none := by
      cases e : H f with
      | none => rfl
      | some x => rw [sxT _ _ nfr e] at nf; cases nf
    have ef0 : upd H3 f (.lst []) f = some (.lst []) := upd_same
    have sxf := sxT.trans (.of (same_new (o := .lst []) nf))
    have rof := roT.same (same_new (o := .lst []) nf)
    generalize upd H3 f (.lst []) = H4 at ef0 sxf rof
    refine ⟨_, rfl, _, _, rfl, rfl, .inl ⟨by decide, by decide⟩, _, _, rfl, rfl, _, rfl, by omega, by omega, ?_⟩
    rw [show ((2 : Int) * (1 + (a : Nat)) - 1).toNat = 2 * a + 1 by omega]
    refine for_it walk_range (fun i σ Hz => (∃ y5 y6, σ = [some (.ref r), some (.int m), some (.int (1 + (a : Nat))), some (.int (1 + (c : Nat))), some (.ref f), y5, y6, none]) ∧ SameX r H Hz ∧ RowOk K r Hz ∧ ∃ ths : List (List Nat), Hz f = some (.lst (ths.map fun cs => V.str (tx cs))) ∧ ths.length = i ∧ ∀ t ∈ ths, SetOk t)
      ⟨⟨_, _, rfl⟩, sxf, rof, [], ef0, rfl, fun t ht => nomatch ht⟩ (fun _ _ _ _ _ => trivial) (fun i x σ Ha Hb hi z y => ?_) fun σ Hz z => ?_
    · obtain ⟨⟨y5, y6, rfl⟩, sx, ro, ths, ef, hl, ok⟩ := z
      obtain ⟨rfl, rfl⟩ := y
      -- how many signs
      refine ⟨_, rfl, (by show 5 ≤ sizeLine; decide), fun l nl => ?_⟩
      have nlr := ro.ne nl
      have sml : Same Hb (upd Hb l (.lst [.int 0, .int 0, .int 1, .int 1, .int 2])) := same_new nl
      have el : upd Hb l (.lst [.int 0, .int 0, .int 1, .int 1, .int 2]) l = some (.lst [.int 0, .int 0, .int 1, .int 1, .int 2]) := upd_same
      generalize upd Hb l (.lst [.int 0, .int 0, .int 1, .int 1, .int 2]) = Hc at sml el
      refine ⟨r, _, rfl, ro.same sml, .inr ⟨l, [0, 0, 1, 1, 2], rfl, nlr, el, List.cons_ne_nil _ _, by decide, fun z Hd hz sxd rod => ?_⟩⟩
      have zb : 0 ≤ z ∧ z ≤ 2 := by
        simp only [List.mem_cons, List.not_mem_nil, or_false] at hz
        omega
      obtain ⟨n, rfl⟩ := Int.eq_ofNat_of_zero_le zb.1
      have efd : Hd f = some (.lst (ths.map fun cs => V.str (tx cs))) := sxd _ _ nfr (sml _ _ ef)
      refine ⟨_, rfl, by omega, by omega, fun D nD => ?_⟩
      rw [Int.toNat_natCast]
      have nDr := rod.ne nD
      have nDf : D ≠ f := fun z => by rw [z, efd] at nD; cases nD
      refine lc_it walk_range (fun i Hq => SameX r Hd Hq ∧ RowOk K r Hq ∧ ∃ cs : List Nat, Hq D = some (.lst (cs.map fun c => V.str (t1 c))) ∧ cs.length = i ∧ ∀ c ∈ cs, c ∈ kinds) ⟨.of (same_new nD), rod.same (same_new nD), [], upd_same, rfl, fun c hc => nomatch hc⟩ (fun _ _ _ _ => trivial)
        (fun j x Hq Hr hj z y => ?_) fun Hq z => ?_
      · obtain ⟨rfl, rfl⟩ := y
        obtain ⟨sxq, roq, cs, eD, hcl, hck⟩ := z
        refine ⟨rfl, _, rfl, _, rfl, _, rfl, _, rfl, (by show 12 ≤ sizeLine; decide), ?_⟩
        have ek : cutS (tx kinds) none (some (1 + ((c : Nat) : Int))) = tx (kinds.take (1 + c)) := by
          rw [show (1 : Int) + ((c : Nat) : Int) = ((1 + c : Nat) : Int) by omega]
          exact cut_totx (by show 1 + c ≤ 12; omega)
        refine ⟨r, _, rfl, roq, .inl ⟨kinds.take (1 + c), congrArg V.str ek, fun z => ?_, ?_, fun e Hs he sxs ros => ?_⟩⟩
        · have z := congrArg List.length z
          rw [List.length_take, show kinds.length = 12 from rfl, List.length_nil] at z
          omega
        · rw [List.length_take]
          exact Nat.le_trans (Nat.min_le_right _ _) (by decide)
        · have eDs : Hs D = some (.lst (cs.map fun c => V.str (t1 c))) := sxs _ _ nDr eD
          refine ⟨_, eDs, ?_, fun b x hb hx => ?_, ros.keepL (SameX.upd D _ _) eDs nDr.symm, cs ++ [e], ?_, by rw [List.length_append, hcl]; rfl, fun c' hc' => ?_⟩
          · rw [List.length_map, sizeLine_eq]; omega
          · rw [upd_ne (fun z => by rw [z, nD] at hx; cases hx)]
            exact sxs _ _ hb (sxq _ _ hb hx)
          · rw [upd_same, List.map_append]; rfl
          · rcases List.mem_append.mp hc' with h | h
            · exact hck c' h
            · rw [List.mem_singleton.mp h]
              exact List.mem_of_mem_take he
      · obtain ⟨sxq, roq, cs, eD, hcl, hck⟩ := z
        have efq : Hq f = some (.lst (ths.map fun cs => V.str (tx cs))) := sxq _ _ nfr efd
        -- set, sorted, joined, appended
        refine ⟨.ref f, rfl, .inl ⟨rfl, _, .inl (.inl efq)⟩, ⟨_, rfl⟩, _, rfl, D, cs.map t1, rfl, .inl (.inl (by rw [eD, List.map_map]; rfl)), by rw [List.length_map]; omega, fun d nd => ⟨d, _, rfl, upd_same, fun zs p np srt nod mem => ?_⟩⟩
        obtain ⟨ds, rfl, asc, md⟩ := asc_codes (ys := zs) (fun y hy => by
          obtain ⟨c', _, rfl⟩ := List.mem_map.mp ((mem y).mp hy)
          exact ⟨c', rfl⟩) srt nod
        have dk : ∀ c' ∈ ds, c' ∈ kinds := fun c' hc' => by
          obtain ⟨c2, h2, e⟩ := List.mem_map.mp ((mem _).mp ((md c').mp hc'))
          rw [← t1_inj e]
          exact hck c2 h2
        have sok : SetOk ds := ⟨asc, fun c' hc' => kinds_mem (dk c' hc')⟩
        have few := set_few sok
        have smp : Same Hq (upd (upd Hq d (SetSo P w d (cs.map t1))) p (.lst ((ds.map t1).map V.str))) := (same_new nd).trans (same_new np)
        have ep : upd (upd Hq d (SetSo P w d (cs.map t1))) p (.lst ((ds.map t1).map V.str)) p = some (.lst ((ds.map t1).map V.str)) := upd_same
        refine ⟨tx [], p, ds.map t1, rfl, rfl, .inl (.inl (.inl ep)), ?_, f, _, _, rfl, rfl, smp _ _ efq, ?_, ?_⟩
        · rw [List.map_map]
          have e : (ds.map ((fun x : Str => x.length) ∘ t1)).sum = ds.length := by
            clear few sok dk md asc srt nod mem np smp ep
            induction ds with
            | nil => rfl
            | cons c r ih =>
              rw [List.map_cons, List.sum_cons, ih, List.length_cons]
              show 1 + r.length = r.length + 1
              omega
          rw [e, List.length_map, tx_len]
          show ds.length + ds.length * 0 ≤ 16777216
          omega
        · rw [List.length_map, sizeLine_eq]; omega
        · rw [join1]
          refine ⟨⟨_, _, rfl⟩, ?_, ?_, ths ++ [ds], ?_, by rw [List.length_append, hl]; rfl, fun t ht => ?_⟩
          · intro b x hb hx
            rw [upd_ne (fun z => by rw [z, nHf] at hx; cases hx)]
            exact smp _ _ (sxq _ _ hb (sxd _ _ hb (sml _ _ (sx _ _ hb hx))))
          · exact (roq.same smp).keepL (SameX.upd f _ _) (smp _ _ efq) nfr.symm
          · rw [upd_same, List.map_append]; rfl
          · rcases List.mem_append.mp ht with h | h
            · exact ok t h
            · rw [List.mem_singleton.mp h]; exact sok
    · obtain ⟨⟨y5, y6, rfl⟩, sx, ro, ths, ef, hl, ok⟩ := z
      refine ⟨_, rfl, _, rfl, r, _, rfl, by omega, by omega, ro, fun v H5 a5 b5 sx5 ro5 => ?_⟩
      obtain ⟨b, rfl⟩ := Int.eq_ofNat_of_zero_le a5
      have ef5 := sx5 _ _ nfr ef
      refine ⟨_, rfl, f, _, rfl, .inl ⟨.inl (.inl ef5), fun t nt => ⟨(by show 2 ≤ sizeLine; decide), fun p np => ?_⟩⟩⟩
      have smt := same_new (o := .tup (ths.map fun cs => V.str (tx cs))) nt
      have smp := same_new (o := .tup [.int (b : Nat), .ref t]) np
      refine q p ⟨b, ths⟩ _ ⟨?_, ?_, ?_, ok⟩ ⟨t, upd_same, smp _ _ upd_same⟩ (sx.trans (sx5.trans (.of (smt.trans smp)))) (ro5.same (smt.trans smp))
      · show ths.length % 2 = 1
        omega
      · show ths.length ≤ 7
        omega
      · show b ≤ ths.length / 2
        omega
end
end K76

set_option Elab.async false
set_option linter.all false
set_option maxRecDepth 100000
/-! k76: the law's sides, what is had, a span behind a step. -/
namespace K76
open PySem PySem.Spec PyProof.Rows L2
abbrev sSidesL : Stmt := topS 31
abbrev sHadL : Stmt := topS 32
abbrev sAft : Stmt := topS 33
theorem scSidesL : FnScope ["_law_lane_here"] ["_law_lane_here"] (defScope sSidesL) := ⟨rfl, rfl, rfl, by decide +kernel, rfl, by decide +kernel, by decide +kernel⟩
theorem scHadL : FnScope ["_law_lane_here", "_law_span", "_law_found", "_law_room"] ["_law_lane_here", "_law_span"] (defScope sHadL) := ⟨rfl, rfl, rfl, by decide +kernel, rfl, by decide +kernel, by decide +kernel⟩
theorem scAft : FnScope ["_law_span", "_law_sign"] ["_law_span", "_law_sign"] (defScope sAft) := ⟨rfl, rfl, rfl, by decide +kernel, rfl, by decide +kernel, by decide +kernel⟩
section
variable {P : Program} {w : World} {K : PySem.W.Frag} {mg : Str → Option Value} {base : Heap}
theorem ok_sidesL {f : Addr} {fd : FuncData} {k : Nat} (D : Df K mg "_law_sides" sSidesL ["_law_lane_here"] f fd) (B : Bt mg) : FnOk P w K mg base CX0 (k + 1) f fd ["_law_lane_here"] spSides := by
  refine D.F.ok scSidesL (fun vs H Q E h => ?_) (fun cdv A outer s H vs Q E hr h => ?_)
  · obtain ⟨p, l, rfl, _⟩ := h
    rfl
  · obtain ⟨p, l, rfl, ⟨t, e1, e2⟩, o, q⟩ := h
    refine ⟨_, pss_one (ps_ret (pe_tup (pa_cons (pe_ix ix_tup (pv 0) pe_int (fun _ _ => rfl)) (pa_cons (pe_op op_sub (pe_op op_fdiv (pe_callB call_len_seq (by rfl) B.len PySem.boot_len (pa_cons (pe_ix ix_tup (pv 0) pe_int (fun _ _ => rfl)) pa_nil)) pe_int) (pe_ix ix_tup (pv 0) pe_int (fun _ _ => rfl))) pa_nil)))), ?_⟩
    have s1 : SqT K H p [.int (l.b : Nat), .ref t] := .inl (.inl e1)
    have s2 : SqT K H t (l.th.map fun cs => V.str (tx cs)) := .inl (.inl e2)
    refine ⟨_, rfl, p, _, 0, _, rfl, rfl, s1, atI_nat (j := 0) rfl, _, rfl, p, _, 1, _, rfl, rfl, s1, atI_nat (j := 1) rfl, t, _, rfl, .inr s2, _, 2, rfl, rfl, ⟨by decide, by decide⟩, _, rfl, p, _, 0, _, rfl, rfl, s1, atI_nat (j := 0) rfl, _, _, rfl, rfl, ?_⟩
    refine ⟨(by show 2 ≤ sizeLine; decide), fun r nr => ?_⟩
    have e : V.int ((((l.th.map fun cs => V.str (tx cs)).length : Nat) : Int) / 2 - (l.b : Nat)) = .int (l.right : Nat) := by
      rw [List.length_map, lane_right o]
    have z := q r nr
    rw [← e] at z
    exact z
theorem room_at {l : Lane} {s : Span} {i : Nat} (o : LaneOk l) (h1 : s.1 ≤ l.b) (h2 : s.2 ≤ l.th.length / 2 - l.b) (hi : i < s.1 + s.2 + 1) : 2 * (l.b - s.1 + i) < l.th.length := by
  have := o.beg
  have := o.odd
  omega
theorem ok_hadL {f : Addr} {fd : FuncData} {k : Nat} (D : Df K mg "_law_had" sHadL ["_law_lane_here", "_law_span"] f fd) (B : Bt mg) : FnOk P w K mg base CX0 (k + 1) f fd ["_law_lane_here", "_law_span"] spHad := by
  refine D.F.ok scHadL (fun vs H Q E h => ?_) (fun cdv A outer s H vs Q E hr h => ?_)
  · obtain ⟨p, l, a, s, rfl, _⟩ := h
    rfl
  · obtain ⟨p, l, a, s, rfl, la, o, e1, hx, hy, q⟩ := h
    refine ⟨_, pss_cons (ps_set (i := 2) scHadL.nd rfl (.inl rfl) (pe_lst pa_nil))
      (pss_cons (ps_for PassesOwn.never rfl (pi_range2 (by rfl) B.range (pa_cons (pe_op op_sub (pe_ix ix_tup (pv 0) pe_int (fun _ _ => rfl)) (pe_ix ix_tup (pv 1) pe_int (fun _ _ => rfl))) (pa_cons (pe_op op_add (pe_op op_add (pe_ix ix_tup (pv 0) pe_int (fun _ _ => rfl)) (pe_ix ix_tup (pv 1) pe_int (fun _ _ => rfl))) pe_int) pa_nil))) (pg_name (i := 3) scHadL.nd rfl (.inl rfl))
        (pss_one (ps_set (i := 2) scHadL.nd rfl (.inl rfl) (pe_op op_cat (pv 2) (pe_callTy (cr_ltx rfl) (by rfl) B.list (by decide +kernel) (pa_cons (pe_ix ix_tup (pe_ix ix_tup (pv 0) pe_int (fun _ _ => rfl)) (pe_op op_mul pe_int (pv 3)) (fun _ _ => rfl)) pa_nil))))))
      (pss_one (ps_ret (pe_join pe_str (pe_callB (cr_ssorted rfl) (by rfl) B.sorted (by decide +kernel) (pa_cons (pe_callTy (cr_sset rfl) (by rfl) B.set (by decide +kernel) (pa_cons (pv 2) pa_nil)) pa_nil)))))), ?_⟩
    obtain ⟨t, el, et⟩ := id la
    have bl1 : s.1 ≤ l.b := hx
    have bl2 : s.2 ≤ l.th.length / 2 - l.b := hy
    have few := o.few
    have beg := o.beg
    have sq : ∀ {Hz}, Same H Hz → SqT K Hz p [.int (l.b : Nat), .ref t] ∧ SqT K Hz t (l.th.map fun cs => V.str (tx cs)) ∧ SqT K Hz a [.int (s.1 : Nat), .int (s.2 : Nat)] := fun sm => ⟨.inl (.inl (sm _ _ el)), .inl (.inl (sm _ _ et)), .inl (.inl (sm _ _ e1))⟩
    refine ⟨Nat.zero_le _, fun g ng => ?_⟩
    have smg := same_new (o := .lst []) ng
    have q1 := sq smg
    refine ⟨_, rfl, p, _, 0, _, rfl, rfl, q1.1, atI_nat (j := 0) rfl, _, rfl, a, _, 0, _, rfl, rfl, q1.2.2, atI_nat (j := 0) rfl, _, _, rfl, rfl, ?_⟩
    refine ⟨_, rfl, p, _, 0, _, rfl, rfl, q1.1, atI_nat (j := 0) rfl, _, rfl, a, _, 1, _, rfl, rfl, q1.2.2, atI_nat (j := 1) rfl, _, _, rfl, rfl, _, _, rfl, rfl, _, _, rfl, ⟨by omega, by omega, by omega, by omega⟩, ?_⟩
    rw [show (((l.b : Nat) : Int) + (s.2 : Nat) + 1 - ((l.b : Nat) - (s.1 : Nat))).toNat = s.1 + s.2 + 1 by omega]
    refine for_it walk_range (fun i σ Hz => Same H Hz ∧ ∃ g y3, σ = [some (.ref p), some (.ref a), some (.ref g), y3] ∧ ∃ cs : List Nat, Hz g = some (.lst (cs.map fun c => V.str (t1 c))) ∧ cs.length ≤ 12 * i ∧ ∀ c, c ∈ cs ↔ ∃ k, k < i ∧ c ∈ l.at (2 * (l.b - s.1 + k)))
      ⟨smg, g, _, rfl, [], upd_same, Nat.zero_le _, fun c => ⟨(fun h => nomatch h), fun ⟨k, h, _⟩ => absurd h (Nat.not_lt_zero _)⟩⟩ (fun _ _ _ _ _ => trivial) (fun i x σ Ha Hb hi z y => ?_) fun σ Hz z => ?_
    · obtain ⟨sm, g, y3, rfl, cs, eg, hl, hm⟩ := z
      obtain ⟨rfl, hxv⟩ := y
      have hxv : x = .int ((l.b - s.1 + i : Nat) : Int) := hxv.trans (congrArg V.int (show ((l.b : Nat) : Int) - (s.1 : Nat) + (i : Nat) = ((l.b - s.1 + i : Nat) : Int) by omega))
      subst hxv
      have q2 := sq sm
      have lt := room_at o bl1 bl2 hi
      have fr := set_few (at_ok o (2 * (l.b - s.1 + i)))
      have ix : atI (l.th.map fun cs => V.str (tx cs)) ((2 : Int) * ((l.b - s.1 + i : Nat) : Int)) = some (.str (tx (l.at (2 * (l.b - s.1 + i))))) := by
        rw [show (2 : Int) * ((l.b - s.1 + i : Nat) : Int) = ((2 * (l.b - s.1 + i) : Nat) : Int) by omega]
        exact atI_nat (lane_at lt)
      refine ⟨_, rfl, _, rfl, p, _, 1, _, rfl, rfl, q2.1, atI_nat (j := 1) rfl, _, rfl, _, _, rfl, rfl, .inl ⟨by decide, by decide⟩, t, _, _, _, rfl, rfl, q2.2.1, ix, l.at (2 * (l.b - s.1 + i)), rfl, by omega, fun u nu => ?_⟩
      have smu := same_new (o := .lst ((l.at (2 * (l.b - s.1 + i))).map fun c => V.str (t1 c))) nu
      refine ⟨g, u, _, _, rfl, rfl, smu _ _ eg, upd_same, ?_, fun v nv => ?_⟩
      · rw [List.length_map, List.length_map, sizeLine_eq]; omega
      · refine ⟨sm.trans (smu.trans (same_new nv)), v, _, rfl, cs ++ l.at (2 * (l.b - s.1 + i)), ?_, ?_, fun c => ?_⟩
        · rw [upd_same, List.map_append]
        · rw [List.length_append]; omega
        · rw [List.mem_append, hm c]
          constructor
          · rintro (⟨k, h1, h2⟩ | h)
            · exact ⟨k, Nat.lt_succ_of_lt h1, h2⟩
            · exact ⟨i, Nat.lt_succ_self _, h⟩
          · rintro ⟨k, h1, h2⟩
            by_cases e : k = i
            · subst e; exact .inr h2
            · exact .inl ⟨k, by omega, h2⟩
    · obtain ⟨sm, g, y3, rfl, cs, eg, hl, hm⟩ := z
      have small : cs.length < 64 := by omega
      refine ⟨⟨_, rfl⟩, _, rfl, g, cs.map t1, rfl, .inl (.inl (by rw [eg, List.map_map]; rfl)), by rw [List.length_map]; exact small, fun d nd => ⟨d, _, rfl, upd_same, fun zs r nr srt nod mem => ?_⟩⟩
      obtain ⟨ds, rfl, asc, md⟩ := asc_codes (ys := zs) (fun y hy => by
        obtain ⟨c', _, rfl⟩ := List.mem_map.mp ((mem y).mp hy)
        exact ⟨c', rfl⟩) srt nod
      have dm : ∀ c, c ∈ ds ↔ c ∈ cs := fun c => by
        rw [md c, mem]
        exact ⟨fun h => by
          obtain ⟨c2, h2, e⟩ := List.mem_map.mp h
          rw [← t1_inj e]
          exact h2, fun h => List.mem_map.mpr ⟨c, h, rfl⟩⟩
      have ht : HadTx l s ds := ⟨asc, fun c => by
        rw [dm c, hm c]
        unfold hasB
        rw [List.any_eq_true]
        exact ⟨fun ⟨k, h1, h2⟩ => ⟨k, List.mem_range.mpr h1, by simpa using h2⟩, fun ⟨k, h1, h2⟩ => ⟨k, List.mem_range.mp h1, by simpa using h2⟩⟩⟩
      have fewd : ds.length ≤ 12 := nodup_le ds kinds (List.Pairwise.imp (fun {a b} h => Nat.ne_of_lt h) asc) fun c hc => had_kinds o ((ht.mem c).mp hc)
      refine ⟨tx [], r, ds.map t1, rfl, rfl, .inl (.inl (.inl upd_same)), ?_, ?_⟩
      · rw [List.map_map]
        have e : (ds.map ((fun x : Str => x.length) ∘ t1)).sum = ds.length := by
          clear fewd ht dm md asc srt nod mem nr
          induction ds with
          | nil => rfl
          | cons c r ih =>
            rw [List.map_cons, List.sum_cons, ih, List.length_cons]
            show 1 + r.length = r.length + 1
            omega
        rw [e, List.length_map, tx_len]
        show ds.length + ds.length * 0 ≤ 16777216
        omega
      · rw [join1]
        exact q _ ds (sm.trans ((same_new nd).trans (same_new nr))) ht
/-- the signs of a step -/
def sgL : Str := tx [76]
def sgR : Str := tx [82]
def spAft : Sp := fun vs H Q _ => ∃ a s z, vs = [.ref a, .str z] ∧ PairAt H a s ∧ ∀ p, H p = none → Q (.ref p) (upd H p (.tup (if z = sgL then [.int (s.1 + 1 : Nat), .int (s.2 : Nat)] else [.int (s.1 : Nat), .int (s.2 + 1 : Nat)])))
theorem ok_aft {f : Addr} {fd : FuncData} {k : Nat} (D : Df K mg "_law_after" sAft ["_law_span", "_law_sign"] f fd) : FnOk P w K mg base CX0 (k + 1) f fd ["_law_span", "_law_sign"] spAft := by
  refine D.F.ok scAft (fun vs H Q E h => ?_) (fun cdv A outer s H vs Q E hr h => ?_)
  · obtain ⟨a, s, z, rfl, _⟩ := h
    rfl
  · obtain ⟨a, s, z, rfl, e1, q⟩ := h
    have sq : SqT K H a [.int (s.1 : Nat), .int (s.2 : Nat)] := .inl (.inl e1)
    refine ⟨_, pss_one (ps_ret (pe_ifExp (pt_cmpR op_eq (pv 1) pe_str (nomark _)) (pe_tup (pa_cons (pe_op op_add (pe_ix ix_tup (pv 0) pe_int (fun _ _ => rfl)) pe_int) (pa_cons (pe_ix ix_tup (pv 0) pe_int (fun _ _ => rfl)) pa_nil)))
      (pe_tup (pa_cons (pe_ix ix_tup (pv 0) pe_int (fun _ _ => rfl)) (pa_cons (pe_op op_add (pe_ix ix_tup (pv 0) pe_int (fun _ _ => rfl)) pe_int) pa_nil))))), ?_⟩
    refine ⟨_, rfl, rfl, _, rfl, ite2 (fun e => ?_) fun e => ?_⟩
    · have e : z = sgL := V.str.inj (of_decide_eq_true e)
      refine ⟨_, rfl, a, _, 0, _, rfl, rfl, sq, atI_nat (j := 0) rfl, _, _, rfl, rfl, _, rfl, a, _, 1, _, rfl, rfl, sq, atI_nat (j := 1) rfl, (by show 2 ≤ sizeLine; decide), fun p np => ?_⟩
      have z2 := q p np
      rw [if_pos e] at z2
      exact z2
    · have e : ¬ z = sgL := fun h => e (decide_eq_true (congrArg V.str h))
      refine ⟨_, rfl, a, _, 0, _, rfl, rfl, sq, atI_nat (j := 0) rfl, _, rfl, a, _, 1, _, rfl, rfl, sq, atI_nat (j := 1) rfl, _, _, rfl, rfl, (by show 2 ≤ sizeLine; decide), fun p np => ?_⟩
      have z2 := q p np
      rw [if_neg e] at z2
      exact z2
end
end K76

set_option Elab.async false
set_option linter.all false
set_option maxRecDepth 100000
/-! k76: the law's steps. -/
namespace K76
open PySem PySem.Spec PyProof.Rows L2
abbrev sAll : Stmt := topS 34
theorem scAll : FnScope ["_law_house", "_law_spans", "_law_had_here", "_law_found", "_law_lane_here", "_law_span", "_law_at", "_law_left", "_law_right", "_law_one"] ["_law_house", "_law_spans"] (defScope sAll) :=
  ⟨rfl, rfl, rfl, by decide +kernel, rfl, by decide +kernel, by decide +kernel⟩
def rNI : R2 := fun x y H Q => ∃ (c : Nat) (z : Str), x = .str ⟨#[c]⟩ ∧ y = .str z ∧ Q (.bl (!decide (c ∈ z.cps.toList))) H
theorem filter_none (S : Nat → Bool) : ∀ door : List Nat, (door.filter fun c => !S c).isEmpty = door.all S
  | [] => rfl
  | c :: r => by
    have ih := filter_none S r
    rw [List.all_cons, List.filter_cons]
    cases h : S c with
    | true =>
      simp only [Bool.not_true, Bool.false_eq_true, if_false]
      rw [ih]
      rfl
    | false => rfl
theorem read_openL {K : PySem.W.Frag} {te : TE} {H : Hp} {Q : VK} {cs : List Nat} {S : Nat → Bool} {door : List Nat} {a0 a1 a3 a4 a5 a6 a7 a8 a9 : Option V} (few : door.length ≤ 100) (hm : ∀ c, c ∈ cs ↔ S c = true)
    (ht : ∀ k : VK, k (.str (tx door)) H → te [a0, a1, some (.str (tx cs)), a3, a4, a5, a6, a7, a8, a9] H k) (q : ∀ H', Same H H' → Q (.bl (door.all S)) H') :
    tOp (rEmp K id) (tLc (iStr te) (gName 9) (tTest (tOp rNI (tVar 9) (tVar 2))) (tVar 9) [9]) (tLst tNil) [a0, a1, some (.str (tx cs)), a3, a4, a5, a6, a7, a8, a9] H Q := by
  refine ht _ ⟨tx door, rfl, fun D nD => ?_⟩
  refine lc_it walk_str (fun i Hz => Same H Hz ∧ Hz D = some (.lst (((door.take i).filter fun c => !S c).map fun c => V.str (t1 c)))) ⟨same_new nD, upd_same⟩ (fun _ _ _ _ => trivial) (fun i x Ha Hb hi p y => ?_) fun Hz p => ?_
  · obtain ⟨rfl, c, hc, rfl⟩ := y
    obtain ⟨sm, eD⟩ := p
    rw [tx_at] at hc
    rw [tx_cps] at hi
    have hd : (!decide (c ∈ cs)) = !S c := by
      cases h : S c with
      | true => rw [decide_eq_true ((hm c).mpr h)]
      | false => rw [decide_eq_false fun z => by have := (hm c).mp z; rw [h] at this; cases this]
    refine ⟨rfl, _, rfl, _, rfl, c, tx cs, rfl, rfl, _, rfl, ?_⟩
    show if (!decide (c ∈ cs)) = true then _ else _
    rw [hd]
    cases h : S c with
    | true =>
      refine iteF ⟨sm, ?_⟩
      rw [eD, List.take_add_one, hc, List.filter_append]
      simp [h]
    | false =>
      refine iteT ⟨_, rfl, _, eD, ?_, fun b x hb => ?_, ?_⟩
      · rw [List.length_map, sizeLine_eq]
        have := List.length_filter_le (fun c => !S c) (door.take i)
        rw [List.length_take] at this
        omega
      · rw [upd_ne (fun z => by rw [z, nD] at hb; cases hb)]
        exact sm _ _ hb
      · rw [upd_same, List.take_add_one, hc, List.filter_append, List.map_append]
        simp [h, t1]
  · obtain ⟨sm, eD⟩ := p
    rw [tx_cps, List.take_length] at eD
    refine ⟨Nat.zero_le _, fun e ne => ⟨D, e, _, rfl, rfl, .inl (.inl (same_new ne _ _ eD)), .inl (.inl upd_same), ?_⟩⟩
    have e2 : ((door.filter fun c => !S c).map fun c => V.str (t1 c)).isEmpty = door.all S := by rw [List.isEmpty_map, filter_none]
    show Q (.bl (((door.filter fun c => !S c).map fun c => V.str (t1 c)).isEmpty)) _
    rw [e2]
    exact q _ (sm.trans (same_new ne))
section
variable {P : Program} {w : World} {K : PySem.W.Frag} {mg : Str → Option Value} {base : Heap}
def spAll : Sp := fun vs H Q _ => ∃ h hs b ss, vs = [.ref h, .ref b] ∧ HouseAt H h hs ∧ HouseOk hs ∧ SpT H b ss ∧ VS hs ss ∧ ∀ H' l ps, Same H H' → H' l = some (.lst (ps.map V.ref)) → Paired (SpT H') ps (steps hs ss) → Q (.ref l) H'
theorem ok_all {f f1 f2 f3 : Addr} {fd d1 d2 d3 : FuncData} (D : Df K mg "_law_all_steps" sAll ["_law_house", "_law_spans"] f fd) (D1 : Df K mg "_law_had" sHadL ["_law_lane_here", "_law_span"] f1 d1) (D2 : Df K mg "_law_sides" sSidesL ["_law_lane_here"] f2 d2)
    (D3 : Df K mg "_law_after" sAft ["_law_span", "_law_sign"] f3 d3) (B : Bt mg) : FnOk P w K mg base CX0 2 f fd ["_law_house", "_law_spans"] spAll := by
  have GH : FnOk P w K mg base CX0 1 f1 d1 ["_law_lane_here", "_law_span"] spHad := ok_hadL D1 B
  have GS : FnOk P w K mg base CX0 1 f2 d2 ["_law_lane_here"] spSides := ok_sidesL D2 B
  have GA : FnOk P w K mg base CX0 1 f3 d3 ["_law_span", "_law_sign"] spAft := ok_aft D3
  refine D.F.ok scAll (fun vs H Q E h => ?_) (fun cdv A outer s H vs Q E hr h => ?_)
  · obtain ⟨h, hs, b, ss, rfl, _⟩ := h
    rfl
  · obtain ⟨h, hs, b, ss, rfl, ⟨ps, eh, rh⟩, o, sb, v, q⟩ := h
    refine ⟨_, pss_cons (ps_asg (pe_tup (pa_cons pe_str (pa_cons (pe_lst pa_nil) pa_nil))) (pg_tup rfl (pgs_cons (pg_name (i := 2) scAll.nd rfl (.inr rfl)) (pgs_cons (pg_name (i := 3) scAll.nd rfl (.inl rfl)) pgs_nil))))
      (pss_cons (ps_for PassesOwn.never rfl (RZ.pi_zipA (by rfl) B.zip (pa_cons (pv 0) (pa_cons (pv 1) pa_nil))) (pg_tup rfl (pgs_cons (pg_name (i := 4) scAll.nd rfl (.inl rfl)) (pgs_cons (pg_name (i := 5) scAll.nd rfl (.inl rfl)) pgs_nil)))
        (pss_one (ps_set (i := 2) scAll.nd rfl (.inr rfl) (pe_op op_add_str (pv 2) (pe_call GH hr (by rfl) D1.g D1.F.kp D1.b .nil pass0 (pa_cons (pv 4) (pa_cons (pv 5) pa_nil)))))))
      (pss_cons (ps_for PassesOwn.never rfl (pi_range1 (by rfl) B.range (pa_cons (pe_callB call_len_seq (by rfl) B.len PySem.boot_len (pa_cons (pv 0) pa_nil)) pa_nil)) (pg_name (i := 6) scAll.nd rfl (.inl rfl))
        (pss_cons (ps_par (i := 4) (j := 5) rfl scAll.nd rfl rfl (by decide) rfl rfl (pa_cons (pe_ix ix_tup (pv 0) (pv 6) (fun _ _ => rfl)) (pa_cons (pe_ix ix_tup (pv 1) (pv 6) (fun _ _ => rfl)) pa_nil)) rfl)
        (pss_cons (ps_asg (pe_call GS hr (by rfl) D2.g D2.F.kp D2.b .nil pass0 (pa_cons (pv 4) pa_nil)) (pg_tup rfl (pgs_cons (pg_name (i := 7) scAll.nd rfl (.inl rfl)) (pgs_cons (pg_name (i := 8) scAll.nd rfl (.inl rfl)) pgs_nil))))
        (pss_cons (ps_if (pw_and (pt_cmpR op_lt (pe_ix ix_tup (pv 5) pe_int (fun _ _ => rfl)) (pv 7) (nomark _)) (pw_and1 (pt_cmpR (op_eqE (lt_of1 (hu_of hr)))
            (pe_lc (own := [("_law_one", 9)]) (g := gName 9) (tt := tTest (tOp rNI (tVar 9) (tVar 2))) rfl scAll.nd (pi_str (pe_ix ix_tup (pe_ix ix_tup (pv 4) pe_int (fun _ _ => rfl)) (pe_op op_sub (pe_op op_mul pe_int (pe_op op_sub (pe_ix ix_tup (pv 4) pe_int (fun _ _ => rfl)) (pe_ix ix_tup (pv 5) pe_int (fun _ _ => rfl)))) pe_int) (fun _ _ => rfl)))
              (blkOk_by (N := ["_law_house", "_law_spans", "_law_had_here", "_law_found", "_law_lane_here", "_law_span", "_law_at", "_law_left", "_law_right", "_law_one"]) (sc := defScope sAll) (by decide +kernel)) (fun _ _ _ _ _ => pg_name (i := 9) scAll.nd rfl (Or.inl rfl)) (fun _ _ _ _ _ => pts_one (pt_cmpR op_notIn_sign (pv 9) (pv 2) (by rfl))) (fun _ _ _ _ _ => pv 9)) (pe_lst pa_nil) (nomark _)))).pt
          (pss_one (ps_expr (pe_bm PySem.F.plainAttrs_list PySem.F.slot_list_append PySem.F.type_list_append mt_append (pv 3) (pa_cons
            (pe_op op_catA (pe_op op_catA (pe_slice sl_tupA (pv 1) po_none (po_some (pv 6))) (pe_tup (pa_cons (pe_call GA hr (by rfl) D3.g D3.F.kp D3.b .nil pass0 (pa_cons (pv 5) (pa_cons pe_str pa_nil))) pa_nil)))
              (pe_slice sl_tupA (pv 1) (po_some (pe_op op_add (pv 6) pe_int)) po_none)) pa_nil)))) pss_nil)
        (pss_one (ps_if (pw_and (pt_cmpR op_lt (pe_ix ix_tup (pv 5) pe_int (fun _ _ => rfl)) (pv 8) (nomark _)) (pw_and1 (pt_cmpR (op_eqE (lt_of1 (hu_of hr)))
            (pe_lc (own := [("_law_one", 9)]) (g := gName 9) (tt := tTest (tOp rNI (tVar 9) (tVar 2))) rfl scAll.nd (pi_str (pe_ix ix_tup (pe_ix ix_tup (pv 4) pe_int (fun _ _ => rfl)) (pe_op op_add (pe_op op_mul pe_int (pe_op op_add (pe_ix ix_tup (pv 4) pe_int (fun _ _ => rfl)) (pe_ix ix_tup (pv 5) pe_int (fun _ _ => rfl)))) pe_int) (fun _ _ => rfl)))
              (blkOk_by (N := ["_law_house", "_law_spans", "_law_had_here", "_law_found", "_law_lane_here", "_law_span", "_law_at", "_law_left", "_law_right", "_law_one"]) (sc := defScope sAll) (by decide +kernel)) (fun _ _ _ _ _ => pg_name (i := 9) scAll.nd rfl (Or.inl rfl)) (fun _ _ _ _ _ => pts_one (pt_cmpR op_notIn_sign (pv 9) (pv 2) (by rfl))) (fun _ _ _ _ _ => pv 9)) (pe_lst pa_nil) (nomark _)))).pt
          (pss_one (ps_expr (pe_bm PySem.F.plainAttrs_list PySem.F.slot_list_append PySem.F.type_list_append mt_append (pv 3) (pa_cons
            (pe_op op_catA (pe_op op_catA (pe_slice sl_tupA (pv 1) po_none (po_some (pv 6))) (pe_tup (pa_cons (pe_call GA hr (by rfl) D3.g D3.F.kp D3.b .nil pass0 (pa_cons (pv 5) (pa_cons pe_str pa_nil))) pa_nil)))
              (pe_slice sl_tupA (pv 1) (po_some (pe_op op_add (pv 6) pe_int)) po_none)) pa_nil)))) pss_nil))))))
      (pss_one (ps_ret (pv 3))))), ?_⟩
    obtain ⟨qs, eb, rb⟩ := id sb
    have l1 : ps.length = hs.length := Paired.length rh
    have l2 : qs.length = ss.length := Paired.length rb
    have vl := v.len
    have few := o.few
    -- had, found
    refine ⟨Nat.zero_le _, fun f nf => ⟨(by show 2 ≤ sizeLine; decide), fun T0 nT0 => ?_⟩⟩
    have ef0 : upd H f (.lst []) f = some (.lst []) := upd_same
    have smf : Same H (upd H f (.lst [])) := same_new nf
    have fresh : ∀ b x, H b = some x → b ≠ f := fun b x hb z => by rw [z, nf] at hb; cases hb
    generalize upd H f (.lst []) = Hf at ef0 smf nT0
    refine ⟨T0, _, rfl, .inl (.inl upd_same), rfl, _, _, rfl, _, _, rfl, rfl, ?_⟩
    have smT := same_new (o := .tup [.str (tx []), .ref f]) nT0
    have sm2 := smf.trans smT
    have ef2 := smT _ _ ef0
    refine ⟨_, rfl, _, rfl, h, b, _, _, rfl, .inr ⟨.inl (.inl (sm2 _ _ eh)), .inl (.inl (sm2 _ _ eb)), ?_⟩⟩
    have kin : ∀ c, (∃ (j : Nat) (l : Lane) (s : Span), hs[j]? = some l ∧ ss[j]? = some s ∧ hasB l s c = true) → c ∈ kinds := fun c ⟨j, l, s, h1, _, h3⟩ => had_kinds (o.ok _ (List.mem_of_getElem? h1)) h3
    refine for_it (walk_zt (xs := ps.map V.ref) (ys := qs.map V.ref) (by rw [List.length_map, List.length_map]; omega))
      (fun i σ Hz => Same H Hz ∧ Hz f = some (.lst []) ∧ ∃ (cs : List Nat) (y4 y5 : Option V), σ = [some (.ref h), some (.ref b), some (.str (tx cs)), some (.ref f), y4, y5, none, none, none, none] ∧ cs.length ≤ 12 * i ∧ ∀ c, c ∈ cs ↔ ∃ (j : Nat) (l : Lane) (s : Span), j < i ∧ hs[j]? = some l ∧ ss[j]? = some s ∧ hasB l s c = true)
      ⟨sm2, ef2, [], _, _, rfl, Nat.zero_le _, fun c => ⟨(fun z => nomatch z), fun ⟨j, _, _, z, _⟩ => absurd z (Nat.not_lt_zero _)⟩⟩ (fun i σ Hz _ z => ⟨.inl (.inl (z.1 _ _ eh)), .inl (.inl (z.1 _ _ eb))⟩) (fun i x σ Ha Hb hi z y => ?_) fun σ Hz z => ?_
    · obtain ⟨sm, ef, cs, y4, y5, rfl, hl, hm⟩ := z
      obtain ⟨T, x1, x2, rfl, nT, rfl, hx1, hx2⟩ := y
      obtain ⟨p, l, rfl, hl1, la⟩ := house_get rh hx1
      obtain ⟨a, s, rfl, hS, sa⟩ := span_get rb hx2
      have smT := sm.trans (same_new (o := .tup [.ref p, .ref a]) nT)
      have ol := o.ok _ (List.mem_of_getElem? hl1)
      have bd := v.bnd i l s hl1 hS
      rw [List.length_map] at hi
      refine ⟨T, _, rfl, .inl (.inl upd_same), rfl, _, _, rfl, _, _, rfl, rfl, _, rfl, _, rfl, _, rfl, p, l, a, s, rfl, (keep_same smT).lane la, ol, (keep_same smT).pair sa, bd.1, bd.2, fun H1 ds sm1 ht => ?_⟩
      have fewd : ds.length ≤ 12 := nodup_le ds kinds (List.Pairwise.imp (fun {a b} h => Nat.ne_of_lt h) ht.asc) fun c hc => had_kinds ol ((ht.mem c).mp hc)
      refine ⟨tx cs, tx ds, rfl, rfl, by rw [tx_len, tx_len, sizeLine_eq]; omega, smT.trans sm1, sm1 _ _ (same_new nT _ _ ef), cs ++ ds, _, _, by rw [tx_cat]; rfl, by rw [List.length_append]; omega, fun c => ?_⟩
      rw [List.mem_append, hm c, ht.mem c]
      constructor
      · rintro (⟨j, l', s', z1, z2⟩ | z)
        · exact ⟨j, l', s', Nat.lt_succ_of_lt z1, z2⟩
        · exact ⟨i, l, s, Nat.lt_succ_self _, hl1, hS, z⟩
      · rintro ⟨j, l', s', z1, z2, z3, z4⟩
        by_cases e : j = i
        · subst e
          rw [hl1] at z2
          rw [hS] at z3
          cases z2
          cases z3
          exact .inr z4
        · exact .inl ⟨j, l', s', by omega, z2, z3, z4⟩
    obtain ⟨sm3, ef3, cs, y4, y5, rfl, _, hm⟩ := z
    have hm : ∀ c, c ∈ cs ↔ had hs ss c = true := fun c => by
      rw [hm c, had_iff, List.length_map]
      refine ⟨fun ⟨j, l, s, _, z⟩ => ⟨j, l, s, z⟩, fun ⟨j, l, s, z1, z⟩ => ⟨j, l, s, ?_, z1, z⟩⟩
      have := (List.getElem?_eq_some_iff.mp z1).1
      omega
    refine ⟨_, rfl, h, _, rfl, .inr (.inl (.inl (sm3 _ _ eh))), _, rfl, ?_⟩
    rw [List.length_map, l1]
    refine ⟨by omega, by omega, ?_⟩
    rw [Int.toNat_natCast]
    have nh := fresh _ _ eh
    have nb := fresh _ _ eb
    refine for_it walk_range (fun i σ Hw => (∃ y4 y5 y6 y7 y8, σ = [some (.ref h), some (.ref b), some (.str (tx cs)), some (.ref f), y4, y5, y6, y7, y8, none]) ∧ SameX f Hz Hw ∧ ∃ rs, Hw f = some (.lst (rs.map V.ref)) ∧ Paired (SpT Hw) rs ((List.range i).flatMap (stepsAt hs ss)))
      ⟨⟨_, _, _, _, _, rfl⟩, SameX.refl _ _, [], ef3, .nil⟩ (fun _ _ _ _ _ => trivial) (fun i x σ Ha Hb hi z y => ?_) fun σ Hw z => ?_
    · obtain ⟨⟨y4, y5, y6, y7, y8, rfl⟩, sx, rs, efa, pr⟩ := z
      obtain ⟨rfl, hxv⟩ := y
      have hxv : x = .int ((i : Nat) : Int) := hxv.trans (congrArg V.int (Int.zero_add _))
      subst hxv
      have gp : (ps.map V.ref)[i]? = some (.ref (ps[i]'(by omega))) := by rw [List.getElem?_map, List.getElem?_eq_getElem (by omega)]; rfl
      have gq : (qs.map V.ref)[i]? = some (.ref (qs[i]'(by omega))) := by rw [List.getElem?_map, List.getElem?_eq_getElem (by omega)]; rfl
      generalize ps[i]'(by omega) = p at gp
      generalize qs[i]'(by omega) = a at gq
      obtain ⟨_, l, e1, hl, la⟩ := house_get rh gp
      cases e1
      obtain ⟨_, s, e2, hS, sa⟩ := span_get rb gq
      cases e2
      obtain ⟨t0, el, et⟩ := id la
      have ol := o.ok _ (List.mem_of_getElem? hl)
      have bd := v.bnd i l s hl hS
      have beg := ol.beg
      have odd := ol.odd
      have fewt := ol.few
      have bl1 : s.1 ≤ l.b := bd.1
      have bl2 : s.2 ≤ l.th.length / 2 - l.b := bd.2
      have hiS : i < ss.length := by omega
      have keepX : ∀ {Hx}, SameX f Hz Hx → KeepT H Hx := fun sx => (keep_same sm3).trans (sx.keep ef3)
      have ka := keepX sx
      refine ⟨_, rfl, _, rfl, h, _, _, _, rfl, rfl, .inl (.inl (ka _ _ eh)), atI_nat gp, _, rfl, _, rfl, b, _, _, _, rfl, rfl, .inl (.inl (ka _ _ eb)), atI_nat gq, _, _, rfl, ?_⟩
      -- left, right
      refine ⟨_, rfl, p, l, rfl, ka.lane la, ol, fun t nt => ⟨t, _, rfl, .inl (.inl upd_same), rfl, _, _, rfl, _, _, rfl, rfl, ?_⟩⟩
      have smac : Same Hb (upd Hb t (.tup [.int (l.left : Nat), .int (l.right : Nat)])) := same_new nt
      generalize upd Hb t (.tup [.int (l.left : Nat), .int (l.right : Nat)]) = Hc at smac
      have sxc : SameX f Hz Hc := sx.trans (.of smac)
      have efc : Hc f = some (.lst (rs.map V.ref)) := smac _ _ efa
      have prc : Paired (SpT Hc) rs ((List.range i).flatMap (stepsAt hs ss)) := Paired.mapP pr fun _ _ z => (keep_same smac).spt z
      have fewp := pre_len hs ss i
      have sqa : ∀ {Hx}, KeepT H Hx → SqT K Hx a [.int (s.1 : Nat), .int (s.2 : Nat)] := fun k => .inl (.inl (k.pair sa))
      have sqp : ∀ {Hx}, KeepT H Hx → SqT K Hx p [.int (l.b : Nat), .ref t0] := fun k => .inl (.inl (k _ _ el))
      have sqt : ∀ {Hx}, KeepT H Hx → SqT K Hx t0 (l.th.map fun cs => V.str (tx cs)) := fun k => .inl (.inl (k _ _ et))
      dsimp only
      refine two_step (fun Hs => SameX f Hz Hs ∧ ∃ rs, Hs f = some (.lst (rs.map V.ref)) ∧ Paired (SpT Hs) rs ((List.range i).flatMap (stepsAt hs ss) ++ if canL hs ss l s = true then [ss.set i (s.1 + 1, s.2)] else [])) (fun Hg hC => ?_) fun hn => ?_
      · -- the right side
        obtain ⟨sxg, rg, efg, prg⟩ := hC
        have kg := keepX sxg
        have lg : rg.length ≤ 2 * i + 1 := by
          have e := Paired.length prg
          rw [e, List.length_append]
          have : (if canL hs ss l s = true then [ss.set i (s.1 + 1, s.2)] else []).length ≤ 1 := by split <;> simp
          omega
        have goal : ∀ Hw, SameX f Hz Hw → (∃ rz, Hw f = some (.lst (rz.map V.ref)) ∧ Paired (SpT Hw) rz (((List.range i).flatMap (stepsAt hs ss) ++ if canL hs ss l s = true then [ss.set i (s.1 + 1, s.2)] else []) ++ if canR hs ss l s = true then [ss.set i (s.1, s.2 + 1)] else [])) →
            SameX f Hz Hw ∧ ∃ rs, Hw f = some (.lst (rs.map V.ref)) ∧ Paired (SpT Hw) rs ((List.range (i + 1)).flatMap (stepsAt hs ss)) := fun Hw sxz ⟨rz, ez, pz⟩ => by
          refine ⟨sxz, rz, ez, ?_⟩
          have e : (List.range (i + 1)).flatMap (stepsAt hs ss) = ((List.range i).flatMap (stepsAt hs ss) ++ if canL hs ss l s = true then [ss.set i (s.1 + 1, s.2)] else []) ++ if canR hs ss l s = true then [ss.set i (s.1, s.2 + 1)] else [] := by
            rw [List.range_succ, List.flatMap_append, List.flatMap_singleton, List.append_assoc]
            congr 1
            unfold stepsAt
            rw [hl, hS]
          rw [e]
          exact pz
        refine ⟨_, rfl, a, _, 1, _, rfl, rfl, sqa kg, atI_nat (j := 1) rfl, _, rfl, _, _, rfl, rfl, _, rfl, ?_⟩
        show if decide (((s.2 : Nat) : Int) < (l.right : Nat)) = true then _ else _
        by_cases lt : s.2 < l.right
        · rw [decide_eq_true (show ((s.2 : Nat) : Int) < (l.right : Nat) by omega)]
          refine iteT ?_
          have lt' : s.2 < l.th.length / 2 - l.b := lt
          have ds := at_ok ol (2 * (l.b + s.2) + 1)
          have ix : atI (l.th.map fun cs => V.str (tx cs)) ((2 : Int) * (((l.b : Nat) : Int) + (s.2 : Nat)) + 1) = some (.str (tx (l.at (2 * (l.b + s.2) + 1)))) := by
            rw [show (2 : Int) * (((l.b : Nat) : Int) + (s.2 : Nat)) + 1 = ((2 * (l.b + s.2) + 1 : Nat) : Int) by omega]
            exact atI_nat (lane_at (by omega))
          refine read_openL (K := K) (S := had hs ss) (few := Nat.le_trans (set_few ds) (by decide)) hm (fun k hk => ⟨_, rfl, p, _, 1, _, rfl, rfl, sqp kg, atI_nat (j := 1) rfl, _, rfl, p, _, 0, _, rfl, rfl, sqp kg, atI_nat (j := 0) rfl, _, rfl, a, _, 1, _, rfl, rfl, sqa kg, atI_nat (j := 1) rfl, _, _, rfl, rfl, _, _, rfl, rfl, .inl ⟨by decide, by decide⟩, _, _, rfl, rfl, t0, _, _, _, rfl, rfl, sqt kg, ix, hk⟩) fun Hq smq => ⟨_, rfl, ?_⟩
          by_cases op : (l.at (2 * (l.b + s.2) + 1)).all (had hs ss) = true
          · rw [op]
            refine iteT ?_
            have efq : Hq f = some (.lst (rg.map V.ref)) := smq _ _ efg
            have kq := kg.trans (keep_same smq)
            refine ⟨.ref f, rfl, .inl ⟨rfl, _, .inl (.inl efq)⟩, ?_⟩
            refine read_spl (K := K) (jb := 1) (ja := 6) (i := i) (s' := (s.1, s.2 + 1)) rfl rfl (kq.spt sb) hiS (by omega) (fun H3 k sm3 hk => ?_) fun r H4 sm4 sp4 => ?_
            · have k3 := kq.trans (keep_same sm3)
              refine ⟨_, rfl, a, s, sgR, rfl, k3.pair sa, fun m nm => hk m _ (same_new nm) ?_⟩
              show upd H3 m _ m = _
              rw [upd_same, if_neg (by decide)]
            · refine ⟨f, _, _, rfl, rfl, sm4 _ _ efq, ?_, ⟨_, _, _, _, _, rfl⟩, goal _ ?_ ⟨rg ++ [r], ?_, ?_⟩⟩
              · rw [List.length_map, sizeLine_eq]; omega
              · exact sxg.trans ((SameX.of smq).trans ((SameX.of sm4).trans (SameX.upd _ _ _)))
              · rw [upd_same, List.map_append]; rfl
              · have c : canR hs ss l s = true := by
                  unfold canR
                  rw [decide_eq_true lt]
                  exact op
                rw [if_pos c]
                have ku := (SameX.upd f H4 (.lst (rg.map V.ref ++ [.ref r]))).keep (sm4 _ _ efq)
                exact Paired.snoc (Paired.mapP prg fun _ _ z => ku.spt ((keep_same (smq.trans sm4)).spt z)) (ku.spt sp4)
          · rw [Bool.not_eq_true] at op
            rw [op]
            refine iteF ⟨⟨_, _, _, _, _, rfl⟩, goal _ (sxg.trans (.of smq)) ⟨rg, smq _ _ efg, ?_⟩⟩
            have c : canR hs ss l s = false := by
              unfold canR
              rw [decide_eq_true lt]
              exact op
            rw [c]
            show Paired (SpT Hq) rg (_ ++ [])
            rw [List.append_nil]
            exact Paired.mapP prg fun _ _ z => (keep_same smq).spt z
        · rw [decide_eq_false (show ¬ ((s.2 : Nat) : Int) < (l.right : Nat) by omega)]
          refine iteF (iteF ⟨⟨_, _, _, _, _, rfl⟩, goal _ sxg ⟨rg, efg, ?_⟩⟩)
          have c : canR hs ss l s = false := by
            unfold canR
            rw [decide_eq_false lt]
            rfl
          rw [c]
          show Paired (SpT Hg) rg (_ ++ [])
          rw [List.append_nil]
          exact prg
      · -- the left side
        have kg : KeepT H Hc := keepX sxc
        have lg : rs.length ≤ 2 * i := by rw [Paired.length prc]; exact fewp
        refine ⟨_, rfl, a, _, 0, _, rfl, rfl, sqa kg, atI_nat (j := 0) rfl, _, rfl, _, _, rfl, rfl, _, rfl, ?_⟩
        show if decide (((s.1 : Nat) : Int) < (l.left : Nat)) = true then _ else _
        by_cases lt : s.1 < l.left
        · rw [decide_eq_true (show ((s.1 : Nat) : Int) < (l.left : Nat) by omega)]
          refine iteT ?_
          have lt' : s.1 < l.b := lt
          have ds := at_ok ol (2 * (l.b - s.1) - 1)
          have ix : atI (l.th.map fun cs => V.str (tx cs)) ((2 : Int) * (((l.b : Nat) : Int) - (s.1 : Nat)) - 1) = some (.str (tx (l.at (2 * (l.b - s.1) - 1)))) := by
            rw [show (2 : Int) * (((l.b : Nat) : Int) - (s.1 : Nat)) - 1 = ((2 * (l.b - s.1) - 1 : Nat) : Int) by omega]
            exact atI_nat (lane_at (by omega))
          refine read_openL (K := K) (S := had hs ss) (few := Nat.le_trans (set_few ds) (by decide)) hm (fun k hk => ⟨_, rfl, p, _, 1, _, rfl, rfl, sqp kg, atI_nat (j := 1) rfl, _, rfl, p, _, 0, _, rfl, rfl, sqp kg, atI_nat (j := 0) rfl, _, rfl, a, _, 0, _, rfl, rfl, sqa kg, atI_nat (j := 0) rfl, _, _, rfl, rfl, _, _, rfl, rfl, .inl ⟨by decide, by decide⟩, _, _, rfl, rfl, t0, _, _, _, rfl, rfl, sqt kg, ix, hk⟩) fun Hq smq => ⟨_, rfl, ?_⟩
          by_cases op : (l.at (2 * (l.b - s.1) - 1)).all (had hs ss) = true
          · rw [op]
            refine iteT ?_
            have efq : Hq f = some (.lst (rs.map V.ref)) := smq _ _ efc
            have kq := kg.trans (keep_same smq)
            refine ⟨.ref f, rfl, .inl ⟨rfl, _, .inl (.inl efq)⟩, ?_⟩
            refine read_spl (K := K) (jb := 1) (ja := 6) (i := i) (s' := (s.1 + 1, s.2)) rfl rfl (kq.spt sb) hiS (by omega) (fun H3 k sm3 hk => ?_) fun r H4 sm4 sp4 => ?_
            · have k3 := kq.trans (keep_same sm3)
              refine ⟨_, rfl, a, s, sgL, rfl, k3.pair sa, fun m nm => hk m _ (same_new nm) ?_⟩
              show upd H3 m _ m = _
              rw [upd_same, if_pos rfl]
            · refine ⟨f, _, _, rfl, rfl, sm4 _ _ efq, ?_, hn _ ⟨?_, rs ++ [r], ?_, ?_⟩⟩
              · rw [List.length_map, sizeLine_eq]; omega
              · exact sxc.trans ((SameX.of smq).trans ((SameX.of sm4).trans (SameX.upd _ _ _)))
              · rw [upd_same, List.map_append]; rfl
              · have c : canL hs ss l s = true := by
                  unfold canL
                  rw [decide_eq_true lt]
                  exact op
                rw [if_pos c]
                have ku := (SameX.upd f H4 (.lst (rs.map V.ref ++ [.ref r]))).keep (sm4 _ _ efq)
                exact Paired.snoc (Paired.mapP prc fun _ _ z => ku.spt ((keep_same (smq.trans sm4)).spt z)) (ku.spt sp4)
          · rw [Bool.not_eq_true] at op
            rw [op]
            refine iteF (hn _ ⟨sxc.trans (.of smq), rs, smq _ _ efc, ?_⟩)
            have c : canL hs ss l s = false := by
              unfold canL
              rw [decide_eq_true lt]
              exact op
            rw [c]
            show Paired (SpT Hq) rs (_ ++ [])
            rw [List.append_nil]
            exact Paired.mapP prc fun _ _ z => (keep_same smq).spt z
        · rw [decide_eq_false (show ¬ ((s.1 : Nat) : Int) < (l.left : Nat) by omega)]
          refine iteF (iteF (hn _ ⟨sxc, rs, efc, ?_⟩))
          have c : canL hs ss l s = false := by
            unfold canL
            rw [decide_eq_false lt]
            rfl
          rw [c]
          show Paired (SpT Hc) rs (_ ++ [])
          rw [List.append_nil]
          exact prc
    · obtain ⟨⟨y4, y5, y6, y7, y8, rfl⟩, sx, rs, efz, pr⟩ := z
      exact ⟨_, rfl, q Hw f rs (fun b x hb => sx _ _ (fresh _ _ hb) (sm3 _ _ hb)) efz pr⟩
end
end K76

set_option Elab.async false
set_option linter.all false
set_option maxRecDepth 100000
/-! k76: the law's comparison. -/
namespace K76
open PySem PySem.Spec PyProof.Rows L2
abbrev sAl : Stmt := topS 29
theorem scAl : FnScope ["_law_found", "_law_due", "_law_k"] ["_law_found", "_law_due"] (defScope sAl) := ⟨rfl, rfl, rfl, by decide +kernel, rfl, by decide +kernel, by decide +kernel⟩
/-- two values that are alike: ints, tuples of such -/
def Al : Nat → Hp → V → V → Prop
  | 0, _, x, y => ∃ i, x = .int i ∧ y = .int i
  | n + 1, H, x, y => (∃ i, x = .int i ∧ y = .int i) ∨ ∃ p q xs ys, x = .ref p ∧ y = .ref q ∧ H p = some (.tup xs) ∧ H q = some (.tup ys) ∧ xs.length = ys.length ∧ ys.length ≤ 100 ∧ ∀ (i : Nat) x y, xs[i]? = some x → ys[i]? = some y → Al n H x y
theorem Al.same {H H' : Hp} (s : Same H H') : ∀ {n : Nat} {x y : V}, Al n H x y → Al n H' x y
  | 0, _, _, h => h
  | n + 1, _, _, .inl h => .inl h
  | n + 1, _, _, .inr ⟨p, q, xs, ys, e1, e2, e3, e4, e5, e6, e7⟩ => .inr ⟨p, q, xs, ys, e1, e2, s _ _ e3, s _ _ e4, e5, e6, fun i x y h1 h2 => Al.same s (e7 i x y h1 h2)⟩
theorem al_pair {H : Hp} {p q : Addr} {s : Span} (h1 : PairAt H p s) (h2 : PairAt H q s) : Al 1 H (.ref p) (.ref q) :=
  .inr ⟨p, q, _, _, rfl, rfl, h1, h2, rfl, (by show 2 ≤ 100; decide), fun i x y e1 e2 => by
    rw [e1] at e2
    cases e2
    match i, e1 with
    | 0, e1 => cases e1; exact ⟨_, rfl, rfl⟩
    | 1, e1 => cases e1; exact ⟨_, rfl, rfl⟩
    | i + 2, e1 => simp at e1⟩
theorem al_spans {H : Hp} {b c : Addr} {ss : List Span} (few : ss.length ≤ 100) (h1 : SpT H b ss) (h2 : SpT H c ss) : Al 2 H (.ref b) (.ref c) := by
  obtain ⟨ps, e1, r1⟩ := h1
  obtain ⟨qs, e2, r2⟩ := h2
  have l1 : ps.length = ss.length := Paired.length r1
  have l2 : qs.length = ss.length := Paired.length r2
  refine .inr ⟨b, c, _, _, rfl, rfl, e1, e2, by rw [List.length_map, List.length_map]; omega, by rw [List.length_map]; omega, fun i x y h1 h2 => ?_⟩
  obtain ⟨p, s, rfl, hs, hp⟩ := span_get r1 h1
  obtain ⟨q, s', rfl, hs', hq⟩ := span_get r2 h2
  rw [hs] at hs'
  cases hs'
  exact al_pair hp hq
section
variable {P : Program} {w : World} {K : PySem.W.Frag} {mg : Str → Option Value} {base : Heap}
def spAl (n : Nat) : Sp := fun vs H Q _ => ∃ x y, vs = [x, y] ∧ Al n H x y ∧ ∀ H', Same H H' → Q (.bl true) H'
theorem kit_tl : PySem.W.kitAny K (.type "tuple") [.type "tuple", .type "list"] = some true := kitAny_cons (b := true) (kit_ty (by decide +kernel)) (fun z => nomatch z) fun _ => rfl
theorem kit_il : PySem.W.kitAny K (.type "int") [.type "tuple", .type "list"] = some false :=
  kitAny_cons (b := false) (kit_ty (by decide +kernel)) (fun _ => kitAny_cons (b := false) (kit_ty (by decide +kernel)) (fun _ => kitAny_nil) fun z => nomatch z) fun z => nomatch z
theorem cls_tl : Paired ClsV [.ty "tuple", .ty "list"] [.type "tuple", .type "list"] := .cons (.ty _) (.cons (.ty _) .nil)
/-- two ints -/
theorem al_int {f : Addr} {fd : FuncData} {k : Nat} (D : Df K mg "_law_alike" sAl ["_law_found", "_law_due"] f fd) (B : Bt mg) {cdv : Value} {A : Around} {outer : List Env} {s : Shared} {H : Hp} {Q : VK} {E : XK} (i : Int)
    (hr : Room k (A.deeper (envOfC "_law_alike" (defScope sAl) s.heap.objs.size f cdv))) (q : ∀ H', Same H H' → Q (.bl true) H') :
    ∃ t, PSs (cxOf CX0 P w K mg base ["_law_found", "_law_due", "_law_k"] "_law_alike" (defScope sAl) f cdv A outer s H E).nox (defBody sAl) t ∧ t { nx := fun _ H' => Q .non H', rt := Q } (start ["_law_found", "_law_due", "_law_k"] [.int i, .int i]) H := by
  refine ⟨_, pss_cons (ps_if (pt_val (pe_callB call_isiT (by rfl) B.isi (by decide +kernel) (pa_cons (pv 1) (pa_cons (pe_tup (pa_cons (pe_bltn (v := .ty "tuple") (by rfl) B.tuple (by decide +kernel) rfl) (pa_cons (pe_bltn (v := .ty "list") (by rfl) B.list (by decide +kernel) rfl) pa_nil))) pa_nil)))) pss_never pss_nil)
    (pss_cons (ps_if (pw_or (pt_cmp (pc_isN (pv 1))) (pw_or1 (pt_val (pe_callB call_isi (by rfl) B.isi (by decide +kernel) (pa_cons (pv 1) (pa_cons (pe_bltn (v := .ty "str") (by rfl) B.str (by decide +kernel) rfl) pa_nil)))))).pt pss_never pss_nil)
    (pss_one (ps_ret (pe_and (pe_callB call_isi (by rfl) B.isi (by decide +kernel) (pa_cons (pv 0) (pa_cons (pe_bltn (v := .ty "int") (by rfl) B.int (by decide +kernel) rfl) pa_nil)))
      (pe_and (pe_cmpR op_eq (pe_callB call_isi (by rfl) B.isi (by decide +kernel) (pa_cons (pv 0) (pa_cons (pe_bltn (v := .ty "bool") (by rfl) B.bool (by decide +kernel) rfl) pa_nil))) (pe_callB call_isi (by rfl) B.isi (by decide +kernel) (pa_cons (pv 1) (pa_cons (pe_bltn (v := .ty "bool") (by rfl) B.bool (by decide +kernel) rfl) pa_nil))) (nomark _))
        (pe_one (pe_cmpR op_eq (pv 0) (pv 1) (nomark _)))))))), ?_⟩
  refine ⟨_, rfl, (by show 2 ≤ sizeLine; decide), fun T nT => ⟨_, T, _, _, _, false, rfl, upd_same, cls_tl, .base (.int i), kit_il, false, rfl, iteF ?_⟩⟩
  have sm := same_new (o := .tup [.ty "tuple", .ty "list"]) nT
  refine ⟨_, rfl, false, rfl, iteF ?_⟩
  refine ⟨_, rfl, _, _, _, _, false, rfl, .ty "str", .base (.int i), kit_ty (by decide +kernel), false, rfl, iteF ?_⟩
  refine ⟨_, rfl, _, _, _, _, true, rfl, .ty "int", .base (.int i), kit_ty (by decide +kernel), true, rfl, iteT ?_⟩
  refine ⟨_, rfl, _, _, _, _, false, rfl, .ty "bool", .base (.int i), kit_ty (by decide +kernel), _, rfl, _, _, _, _, false, rfl, .ty "bool", .base (.int i), kit_ty (by decide +kernel), rfl, true, rfl, iteT ?_⟩
  refine ⟨_, rfl, _, rfl, rfl, ?_⟩
  rw [decide_eq_true rfl]
  exact q _ sm
theorem ok_al {f : Addr} {fd : FuncData} (D : Df K mg "_law_alike" sAl ["_law_found", "_law_due"] f fd) (B : Bt mg) : ∀ n, FnOk P w K mg base CX0 (n + 1) f fd ["_law_found", "_law_due"] (spAl n)
  | 0 => by
    refine D.F.ok scAl (fun vs H Q E h => ?_) (fun cdv A outer s H vs Q E hr h => ?_)
    · obtain ⟨x, y, rfl, _⟩ := h
      rfl
    · obtain ⟨_, _, rfl, ⟨i, rfl, rfl⟩, q⟩ := h
      exact al_int D B i hr q
  | n + 1 => by
    have G : FnOk P w K mg base CX0 (n + 1) f fd ["_law_found", "_law_due"] (spAl n) := ok_al D B n
    refine D.F.ok scAl (fun vs H Q E h => ?_) (fun cdv A outer s H vs Q E hr h => ?_)
    · obtain ⟨x, y, rfl, _⟩ := h
      rfl
    · obtain ⟨_, _, rfl, h, q⟩ := h
      rcases h with ⟨i, rfl, rfl⟩ | ⟨p, c, xs, ys, rfl, rfl, ep, ec, hl, few, al⟩
      · exact al_int D B i hr q
      refine ⟨_, pss_cons (ps_if (pt_val (pe_callB call_isiT (by rfl) B.isi (by decide +kernel) (pa_cons (pv 1) (pa_cons (pe_tup (pa_cons (pe_bltn (v := .ty "tuple") (by rfl) B.tuple (by decide +kernel) rfl) (pa_cons (pe_bltn (v := .ty "list") (by rfl) B.list (by decide +kernel) rfl) pa_nil))) pa_nil))))
        (pss_cons (ps_if (pw_or (pt_not (pt_val (pe_callB call_isiT (by rfl) B.isi (by decide +kernel) (pa_cons (pv 0) (pa_cons (pe_tup (pa_cons (pe_bltn (v := .ty "tuple") (by rfl) B.tuple (by decide +kernel) rfl) (pa_cons (pe_bltn (v := .ty "list") (by rfl) B.list (by decide +kernel) rfl) pa_nil))) pa_nil)))))
            (pw_or1 (pt_cmpR op_ne (pe_callB call_isi (by rfl) B.isi (by decide +kernel) (pa_cons (pv 0) (pa_cons (pe_bltn (v := .ty "list") (by rfl) B.list (by decide +kernel) rfl) pa_nil))) (pe_callB call_isi (by rfl) B.isi (by decide +kernel) (pa_cons (pv 1) (pa_cons (pe_bltn (v := .ty "list") (by rfl) B.list (by decide +kernel) rfl) pa_nil))) (nomark _)))).pt pss_never pss_nil)
        (pss_cons (ps_if (pt_cmpR op_ne (pe_callB call_len_seq (by rfl) B.len PySem.boot_len (pa_cons (pv 0) pa_nil)) (pe_callB call_len_seq (by rfl) B.len PySem.boot_len (pa_cons (pv 1) pa_nil)) (nomark _)) pss_never pss_nil)
        (pss_one (ps_ret (pe_cmpR (op_eqE (lt_of1 (hu_of hr)))
          (pe_lc (own := [("_law_k", 2)]) (g := gName 2) (tt := tNot (tB (tCall (spAl n) [] E0 (tCons (tOp (rIxT K) (tVar 0) (tVar 2)) (tCons (tOp (rIxT K) (tVar 1) (tVar 2)) tNil))))) rfl scAl.nd (pi_range1 (by rfl) B.range (pa_cons (pe_callB call_len_seq (by rfl) B.len PySem.boot_len (pa_cons (pv 1) pa_nil)) pa_nil))
            (blkOk_by (N := ["_law_found", "_law_due", "_law_k"]) (sc := defScope sAl) (by decide +kernel)) (fun _ _ _ _ _ => pg_name (i := 2) scAl.nd rfl (Or.inl rfl))
            (fun _ _ _ _ _ => pts_one (pt_not (pt_val (pe_call G hr (by rfl) D.g D.F.kp D.b .nil pass0 (pa_cons (pe_ix ix_tup (pv 0) (pv 2) (fun _ _ => rfl)) (pa_cons (pe_ix ix_tup (pv 1) (pv 2) (fun _ _ => rfl)) pa_nil)))))) (fun _ _ _ _ _ => pv 2)) (pe_lst pa_nil) (nomark _)))))) pss_nil) pss_never, ?_⟩
      refine ⟨_, rfl, (by show 2 ≤ sizeLine; decide), fun T nT => ⟨_, T, _, _, _, true, rfl, upd_same, cls_tl, .base (.tup (same_new nT _ _ ec)), kit_tl, true, rfl, iteT ?_⟩⟩
      have sm := same_new (o := .tup [.ty "tuple", .ty "list"]) nT
      refine ⟨_, rfl, (by show 2 ≤ sizeLine; decide), fun S nS => ⟨_, S, _, _, _, true, rfl, upd_same, cls_tl, .base (.tup (same_new nS _ _ (sm _ _ ep))), kit_tl, true, rfl, iteF ?_⟩⟩
      have sm2 := sm.trans (same_new (o := .tup [.ty "tuple", .ty "list"]) nS)
      have ep2 := sm2 _ _ ep
      have ec2 := sm2 _ _ ec
      refine ⟨_, rfl, _, _, _, _, false, rfl, .ty "list", .base (.tup ep2), kit_ty (by decide +kernel), _, rfl, _, _, _, _, false, rfl, .ty "list", .base (.tup ec2), kit_ty (by decide +kernel), rfl, false, rfl, iteF ?_⟩
      refine ⟨_, rfl, p, _, rfl, .inr (.inl (.inl ep2)), _, rfl, c, _, rfl, .inr (.inl (.inl ec2)), rfl, _, rfl, ?_⟩
      rw [hl]
      show if (!decide (V.int (ys.length : Nat) = V.int (ys.length : Nat))) = true then _ else _
      rw [decide_eq_true rfl]
      refine iteF ?_
      refine ⟨_, rfl, c, _, rfl, .inr (.inl (.inl ec2)), _, rfl, by omega, by omega, fun Dd nD => ?_⟩
      rw [Int.toNat_natCast]
      generalize upd (upd H T (.tup [.ty "tuple", .ty "list"])) S (.tup [.ty "tuple", .ty "list"]) = H2 at sm2 ep2 ec2 nD
      refine lc_it walk_range (fun i Hq => Same H2 Hq ∧ Hq Dd = some (.lst [])) ⟨same_new nD, upd_same⟩ (fun _ _ _ _ => trivial) (fun i x Hq Hr hi z y => ?_) fun Hq z => ?_
      · obtain ⟨rfl, hxv⟩ := y
        have hxv : x = .int ((i : Nat) : Int) := hxv.trans (congrArg V.int (Int.zero_add _))
        subst hxv
        obtain ⟨smq, eD⟩ := z
        have h1 : xs[i]? = some (xs[i]'(by omega)) := List.getElem?_eq_getElem _
        have h2 : ys[i]? = some ys[i] := List.getElem?_eq_getElem hi
        refine ⟨rfl, _, rfl, _, rfl, p, _, _, _, rfl, rfl, .inl (.inl (smq _ _ ep2)), atI_nat h1, _, rfl, _, rfl, c, _, _, _, rfl, rfl, .inl (.inl (smq _ _ ec2)), atI_nat h2, _, _, rfl, Al.same (sm2.trans smq) (al i _ _ h1 h2), fun H3 sm3 => ⟨true, rfl, iteF ⟨smq.trans sm3, sm3 _ _ eD⟩⟩⟩
      · obtain ⟨smq, eD⟩ := z
        refine ⟨Nat.zero_le _, fun e ne => ⟨Dd, e, [], rfl, rfl, .inl (.inl (same_new ne _ _ eD)), .inl (.inl upd_same), ?_⟩⟩
        exact q _ (sm2.trans (smq.trans (same_new ne)))
end
end K76

set_option Elab.async false
set_option linter.all false
set_option maxRecDepth 100000
/-! k76: the law. -/
namespace K76
open PySem PySem.Spec PyProof.Rows L2
abbrev sLaw : Stmt := topS 35
theorem scLaw : FnScope ["_law_script", "_law_row", "_law_house", "_law_now", "_law_many", "_law_later", "_law_spans", "_law_there", "_law_last", "_law_turn"] ["_law_script"] (defScope sLaw) := ⟨rfl, rfl, rfl, by decide +kernel, rfl, by decide +kernel, by decide +kernel⟩
theorem lay_end {hs : List Lane} {k : Nat} (h1 : lay hs k ≠ []) (h2 : lay hs (k + 1) = []) : ∃ G, Reach hs G ∧ steps hs G = [] ∧ total G = k ∧ (lay hs k).map (·.1) = [G] := by
  cases e : lay hs k with
  | nil => exact absurd e h1
  | cons p r =>
    have mem : p.1 ∈ (lay hs k).map (·.1) := by rw [e]; simp
    obtain ⟨rc, t⟩ := (lay_ok (hs := hs) k).2 _ mem
    have st : steps hs p.1 = [] := by
      cases es : steps hs p.1 with
      | nil => rfl
      | cons u q =>
        have z : u ∈ (lay hs (k + 1)).map (·.1) := mem_layer.mpr ⟨p.1, mem, by rw [es]; simp⟩
        rw [h2] at z
        cases z
    have l := (lay_last rc st).1
    rw [t] at l
    rw [← e]
    exact ⟨p.1, rc, st, t, l⟩
theorem Paired.of_map {α β γ : Type} {R : β → γ → Prop} {f : α → β} {g : α → γ} : ∀ {l : List α}, (∀ a ∈ l, R (f a) (g a)) → Paired R (l.map f) (l.map g)
  | [], _ => .nil
  | a :: r, h => .cons (h a List.mem_cons_self) (Paired.of_map fun b hb => h b (List.mem_cons_of_mem _ hb))
theorem seq_par {i j : Nat} {ta : TA} {u : TS} {D : Ends} {σ : L2.St} {H : Hp} (h : ta σ H fun vs H1 => ∃ v w, vs = [v, w] ∧ u D ((σ.set i (some v)).set j (some w)) H1) : tSeq (tPar i j ta) u D σ H := h
theorem RowOk.keepT {K : PySem.W.Frag} {r : Addr} {H H' : Hp} (h : RowOk K r H) (s : SameX r H H') : KeepT H H' := by
  obtain ⟨_, _, _, _, _, e, _⟩ := h
  exact s.keep e
theorem tab_keys (n : NT) : (tabOf n).map (·.1) = n.map (·.1) := by
  unfold tabOf
  rw [List.map_map]
  rfl
section
variable {P : Program} {w : World} {K : PySem.W.Frag} {mg : Str → Option Value} {base : Heap}
/-- the law's defs -/
structure Ld (K : PySem.W.Frag) (mg : Str → Option Value) : Prop where
  tak : ∃ f fd, Df K mg "_law_taken" sTak ["_law_row", "_law_many"] f fd
  pick : ∃ f fd, Df K mg "_law_pick" sPick ["_law_row", "_law_things"] f fd
  al : ∃ f fd, Df K mg "_law_alike" sAl ["_law_found", "_law_due"] f fd
  lane : ∃ f fd, Df K mg "_law_lane" sLane ["_law_row", "_law_most"] f fd
  si : ∃ f fd, Df K mg "_law_sides" sSidesL ["_law_lane_here"] f fd
  had : ∃ f fd, Df K mg "_law_had" sHadL ["_law_lane_here", "_law_span"] f fd
  aft : ∃ f fd, Df K mg "_law_after" sAft ["_law_span", "_law_sign"] f fd
  all : ∃ f fd, Df K mg "_law_all_steps" sAll ["_law_house", "_law_spans"] f fd
  hs : ∃ f fd, Df K mg "house_steps" sHS ["house", "spans"] f fd
  seen : ∃ f fd, Df K mg "house_seen" sSeen ["house"] f fd
  plays : ∃ f fd, Df K mg "house_plays" sPlays ["house"] f fd
  states : ∃ t, mg "MOST_STATES" = some (.int 20000 t)
def spLaw (K : PySem.W.Frag) : Sp := fun vs H Q _ => ∃ (a : Addr) (ns : List Int), vs = [.ref a] ∧ ScAt K H a (ns.map V.int) ∧ ns.length ≤ 63 ∧ ∀ H', Q (.bl true) H'
theorem ok_law {f : Addr} {fd : FuncData} (F : Fun K "law" "law" sLaw f fd) (L : Ld K mg) (X : Hd K mg) (N : Nd K mg) (B : Bt mg) : FnOk P w K mg base CX0 6 f fd ["_law_script"] (spLaw K) := by
  obtain ⟨f1, d1, D1⟩ := L.tak
  obtain ⟨f2, d2, D2⟩ := L.pick
  obtain ⟨f3, d3, D3⟩ := L.al
  obtain ⟨f4, d4, D4⟩ := L.lane
  obtain ⟨f5, d5, D5⟩ := L.si
  obtain ⟨f6, d6, D6⟩ := L.had
  obtain ⟨f7, d7, D7⟩ := L.aft
  obtain ⟨f8, d8, D8⟩ := L.all
  obtain ⟨f9, d9, D9⟩ := L.hs
  obtain ⟨f10, d10, D10⟩ := L.seen
  obtain ⟨f11, d11, D11⟩ := L.plays
  obtain ⟨ts, gs⟩ := L.states
  have GT : FnOk P w K mg base CX0 5 f1 d1 ["_law_row", "_law_many"] (spTak K) := ok_tak D1 B
  have GP : FnOk P w K mg base CX0 5 f2 d2 ["_law_row", "_law_things"] (spPick K) := ok_pick D2 D1 B
  have GA : FnOk P w K mg base CX0 3 f3 d3 ["_law_found", "_law_due"] (spAl 2) := ok_al D3 B 2
  have GL : FnOk P w K mg base CX0 3 f4 d4 ["_law_row", "_law_most"] (spLane K) := ok_lane D4 D2 D1 B
  have GS : FnOk P w K mg base CX0 2 f8 d8 ["_law_house", "_law_spans"] spAll := ok_all D8 D6 D5 D7 B
  have GE : FnOk P w K mg base CX0 5 f10 d10 ["house"] spSeen := ok_seen D10 D9 X N B
  have GY : FnOk P w K mg base CX0 5 f11 d11 ["house"] spPlays := ok_plays D11 D9 X N B gs
  refine F.ok scLaw (fun vs H Q E h => ?_) (fun cdv A outer s H vs Q E hr h => ?_)
  · obtain ⟨a, ns, rfl, _⟩ := h
    rfl
  · obtain ⟨a, ns, rfl, hsc, hlen, q⟩ := h
    have hu := hu8 hr
    have hr3 := hr.mono (show 3 ≤ 5 by decide)
    have hr2 := hr.mono (show 2 ≤ 5 by decide)
    refine ⟨_, pss_cons (ps_set (i := 1) scLaw.nd rfl (.inr rfl) (pe_lst (pa_cons (pv 0) (pa_cons pe_int (pa_cons pe_int (pa_cons pe_int pa_nil))))))
      (pss_cons (ps_set (i := 2) scLaw.nd rfl (.inl rfl) (pe_callTy call_tuple_of (by rfl) B.tuple (by decide +kernel) (pa_cons
          (pe_lc (own := [("_law_turn", 9)]) (g := gName 9) (tt := tYes) rfl scLaw.nd (pi_range1 (by rfl) B.range (pa_cons (pe_op op_add pe_int (pe_call GT hr (by rfl) D1.g D1.F.kp D1.b .nil pass0 (pa_cons (pv 1) (pa_cons pe_int pa_nil)))) pa_nil))
            (blkOk_by (N := ["_law_script", "_law_row", "_law_house", "_law_now", "_law_many", "_law_later", "_law_spans", "_law_there", "_law_last", "_law_turn"]) (sc := defScope sLaw) (by decide +kernel)) (fun _ _ _ _ _ => pg_name (i := 9) scLaw.nd rfl (Or.inl rfl)) (fun _ _ _ _ _ => pts_nil)
            (fun _ _ _ _ _ => pe_call GL hr3 (by rfl) D4.g D4.F.kp D4.b .nil pass0 (pa_cons (pv 1) (pa_cons (pe_call GP hr (by rfl) D2.g D2.F.kp D2.b .nil pass0 (pa_cons (pv 1) (pa_cons (pe_lst (pa_cons pe_int (pa_cons pe_int (pa_cons pe_int pa_nil)))) pa_nil))) pa_nil)))) pa_nil)))
      (pss_cons (ps_par (i := 3) (j := 4) rfl scLaw.nd rfl rfl (by decide) rfl rfl (pa_cons (pe_none1 hu (pe_op op_rep (pe_tup (pa_cons (pe_tup (pa_cons pe_int (pa_cons pe_int pa_nil))) pa_nil)) (pe_callB call_len_seq (by rfl) B.len PySem.boot_len (pa_cons (pv 2) pa_nil))) pe_int) (pa_cons pe_non pa_nil)) rfl)
      (pss_cons (ps_while PassesOwn.never (pt_cmpR (op_nNe (lt_of1 (hu_of hr))) (pv 3) pe_dnewK (nomark _))
        (pss_cons (ps_par (i := 5) (j := 4) rfl scLaw.nd rfl rfl (by decide) rfl rfl (pa_cons pe_nnew (pa_cons (pe_callB (cr_nsum rfl) (by rfl) B.sum (by decide +kernel) (pa_cons (pe_nvals (pv 3)) pa_nil)) pa_nil)) rfl)
        (pss_cons (ps_lock (ps_for PassesOwn.never rfl (pi_nkeys (pv 3)) (pg_name (i := 6) scLaw.nd rfl (.inl rfl))
          (pss_one (ps_for PassesOwn.never rfl (pi_list (pe_call GS hr2 (by rfl) D8.g D8.F.kp D8.b .nil pass0 (pa_cons (pv 2) (pa_cons (pv 6) pa_nil)))) (pg_name (i := 7) scLaw.nd rfl (.inl rfl))
            (pss_one (ps_nput hu (pv 5) (pv 7) (pe_op op_add (pe_ngetOr hu (pv 5) (pv 7) pe_int ⟨rfl, rfl, rfl, rfl⟩) (pe_nget hu (pv 3) (pv 6) (fun _ _ => rfl))) rfl))))))
        (pss_one (ps_par (i := 8) (j := 3) rfl scLaw.nd rfl rfl (by decide) rfl rfl (pa_cons (pe_callTy (cr_nlist rfl) (by rfl) B.list (by decide +kernel) (pa_cons (pv 3) pa_nil)) (pa_cons (pv 5) pa_nil)) rfl)))))
      (pss_one (ps_ret (pe_and (pe_cmpR op_eq (pe_callB call_len_seq (by rfl) B.len PySem.boot_len (pa_cons (pv 8) pa_nil)) pe_int (nomark _))
        (pe_and (pe_call GA hr3 (by rfl) D3.g D3.F.kp D3.b .nil pass0 (pa_cons (pe_call GE hr (by rfl) D10.g D10.F.kp D10.b .nil pass0 (pa_cons (pv 2) pa_nil)) (pa_cons (pe_ix ix_list (pv 8) pe_int (fun _ _ => rfl)) pa_nil)))
          (pe_one (pe_call GA hr3 (by rfl) D3.g D3.F.kp D3.b .nil pass0 (pa_cons (pe_call GY hr (by rfl) D11.g D11.F.kp D11.b .nil pass0 (pa_cons (pv 2) pa_nil)) (pa_cons (pv 4) pa_nil))))))))))), ?_⟩
    -- the row
    refine ⟨_, rfl, (by show 4 ≤ sizeLine; decide), fun r nr => ?_⟩
    have ro0 : RowOk K r (upd H r (.lst [.ref a, .int 0, .int 4776, .int 0])) := ⟨a, ns, 0, 4776, 0, upd_same, Int.le_refl _, hsc.same (same_new nr), hlen⟩
    generalize upd H r (.lst [.ref a, .int 0, .int 4776, .int 0]) = H0 at ro0
    -- the house
    refine ⟨_, rfl, r, 4, rfl, by decide, by decide, ro0, fun v H1 a1 b1 sx1 ro1 => ?_⟩
    obtain ⟨c, rfl⟩ := Int.eq_ofNat_of_zero_le a1
    refine ⟨_, _, rfl, rfl, _, rfl, by omega, by omega, fun Dl nD => ?_⟩
    rw [show ((1 : Int) + (c : Nat)).toNat = 1 + c by omega]
    have nDr := ro1.ne nD
    refine lc_it walk_range (fun i Hq => SameX r H1 Hq ∧ RowOk K r Hq ∧ ∃ (ps : List Addr) (ls : List Lane), Hq Dl = some (.lst (ps.map V.ref)) ∧ Paired (LaneAt Hq) ps ls ∧ ls.length = i ∧ ∀ l ∈ ls, LaneOk l) ⟨.of (same_new nD), ro1.same (same_new nD), [], [], upd_same, .nil, rfl, fun l hl => nomatch hl⟩ (fun _ _ _ _ => trivial)
      (fun i x Hq Hr hi z y => ?_) fun Hq z => ?_
    · obtain ⟨rfl, rfl⟩ := y
      obtain ⟨sxq, roq, ps, ls, eD, pr, hl, ok⟩ := z
      refine ⟨rfl, _, rfl, _, rfl, (by show 3 ≤ sizeLine; decide), fun l nl => ?_⟩
      have nlr := roq.ne nl
      have sml : Same Hr (upd Hr l (.lst [.int 2, .int 3, .int 4])) := same_new nl
      have el : upd Hr l (.lst [.int 2, .int 3, .int 4]) l = some (.lst [.int 2, .int 3, .int 4]) := upd_same
      have rol := roq.same sml
      generalize upd Hr l (.lst [.int 2, .int 3, .int 4]) = Hc at sml el rol
      refine ⟨r, _, rfl, rol, .inr ⟨l, [2, 3, 4], rfl, nlr, el, List.cons_ne_nil _ _, by decide, fun z Hd hz sxd rod => ?_⟩⟩
      have zb : 2 ≤ z ∧ z ≤ 4 := by
        simp only [List.mem_cons, List.not_mem_nil, or_false] at hz
        omega
      refine ⟨r, z, rfl, by omega, zb.2, rod, fun p ln He lok la sxe roe => ?_⟩
      have eDe : He Dl = some (.lst (ps.map V.ref)) := sxe _ _ nDr (sxd _ _ nDr (sml _ _ eD))
      have kke : KeepT Hr He := (keep_same sml).trans ((rol.keepT sxd).trans (rod.keepT sxe))
      have kku := (SameX.upd Dl He (.lst (ps.map V.ref ++ [.ref p]))).keep eDe
      refine ⟨_, eDe, ?_, ?_, roe.keepL (SameX.upd Dl _ _) eDe nDr.symm, ps ++ [p], ls ++ [ln], ?_, ?_, by rw [List.length_append, hl]; rfl, fun l' hl' => ?_⟩
      · have := Paired.length pr
        rw [List.length_map, sizeLine_eq]
        omega
      · intro b x hb hx
        rw [upd_ne (fun z => by rw [z, nD] at hx; cases hx)]
        exact sxe _ _ hb (sxd _ _ hb (sml _ _ (sxq _ _ hb hx)))
      · rw [upd_same, List.map_append]; rfl
      · exact Paired.snoc (Paired.mapP pr fun _ _ z => kku.lane (kke.lane z)) (kku.lane la)
      · rcases List.mem_append.mp hl' with h | h
        · exact ok l' h
        · rw [List.mem_singleton.mp h]; exact lok
    obtain ⟨sxq, roq, ps, hs, eD, rh, hl, ok⟩ := z
    refine ⟨Dl, _, rfl, .inl ⟨.inl (.inl eD), fun t nt => ?_⟩⟩
    have et : upd Hq t (.tup (ps.map V.ref)) t = some (.tup (ps.map V.ref)) := upd_same
    have smt : Same Hq (upd Hq t (.tup (ps.map V.ref))) := same_new nt
    generalize upd Hq t (.tup (ps.map V.ref)) = Hh at et smt
    have hh : HouseAt Hh t hs := ⟨ps, et, Paired.mapP rh fun _ _ z => (keep_same smt).lane z⟩
    have o : HouseOk hs := ⟨by omega, by omega, ok⟩
    have l1 : ps.length = hs.length := Paired.length rh
    have one := o.one
    have few := o.few
    -- the first layer
    dsimp only
    refine seq_par fun n0 nn0 => ?_
    have smn : Same Hh (upd Hh n0 (NDo P w n0 [])) := same_new nn0
    have en0 : upd Hh n0 (NDo P w n0 []) n0 = some (NDo P w n0 []) := upd_same
    refine read_zeros (K := K) (n := hs.length) one (by omega) (fun H2 k sm2 hk => ⟨_, rfl, t, _, rfl, .inr (.inl (.inl (sm2 _ _ (smn _ _ et)))), ?_⟩) fun b H2 sm2 sb => ?_
    · rw [List.length_map, l1]
      exact hk
    refine ⟨b, zeros hs.length, 1, rfl, sb, sm2 _ _ en0, _, _, rfl, ?_⟩
    have k2 : KeepT Hh H2 := keep_same (smn.trans sm2)
    have ku0 : KeepT H2 (upd H2 n0 (NDo P w n0 [(zeros hs.length, b, 1)])) := nd_keepT (sm2 _ _ en0)
    -- the loop
    refine ⟨fun m σ Hz => ∃ k n nt mv y5 y6 y7 y8, σ = [some (.ref a), some (.ref r), some (.ref t), some (.ref n), some mv, y5, y6, y7, y8, none] ∧ KeepT Hh Hz ∧ Hz n = some (NDo P w n nt) ∧ KeysAt Hz nt ∧ tabOf nt = lay hs k ∧
        (k = 0 ∨ ∃ l ads, y8 = some (.ref l) ∧ Hz l = some (.lst (ads.map V.ref)) ∧ Paired (SpT Hz) ads ((lay hs (k - 1)).map (·.1)) ∧ mv = .int ((lay hs (k - 1)).map (·.2)).sum ∧ lay hs (k - 1) ≠ [] ∧ 1 ≤ k) ∧ m = 14 - k,
      ⟨_, 0, n0, [(zeros hs.length, b, 1)], _, _, _, _, _, rfl, k2.trans ku0, upd_same, ?_, rfl, .inl rfl, rfl⟩, fun m σ Hz z => ?_⟩
    · intro p hp
      have e : p = (zeros hs.length, b, 1) := by simpa using hp
      rw [e]
      exact ku0.spt sb
    obtain ⟨k, n, nt, mv, y5, y6, y7, y8, rfl, kz, ent, ks, tb, past, rfl⟩ := z
    refine ⟨_, rfl, fun e ne => ⟨n, e, nt, rfl, rfl, .inl (same_new ne _ _ ent), upd_same, _, rfl, ?_⟩⟩
    have sme : Same Hz (upd Hz e (.dK [])) := same_new ne
    generalize upd Hz e (.dK []) = He at sme
    have kze : KeepT Hh He := kz.trans (keep_same sme)
    show if (!nt.isEmpty) = true then _ else _
    cases hnt : nt with
    | nil =>
      refine iteF ?_
      rw [hnt] at tb
      have lk : lay hs k = [] := tb.symm
      rcases past with e | ⟨l, ads, rfl, el, pl, rfl, ne0, k1⟩
      · rw [e] at lk
        simp [lay] at lk
      obtain ⟨j, rfl⟩ : ∃ j, k = j + 1 := ⟨k - 1, by omega⟩
      rw [Nat.add_sub_cancel] at pl ne0
      rw [Nat.add_sub_cancel]
      obtain ⟨G, rG, sG, tG, kG⟩ := lay_end ne0 lk
      rw [kG] at pl
      cases pl with
      | @cons g _ _ _ hg pl =>
        cases pl
        have ele := sme _ _ el
        refine ⟨_, rfl, l, _, rfl, .inl (.inl (.inl ele)), rfl, true, rfl, iteT ?_⟩
        refine ⟨_, rfl, t, hs, rfl, kze.house hh, o, fun H3 b3 G3 sm3 sb3 rc3 st3 => ?_⟩
        have eG : G3 = G := reach_end rc3 rG sG st3
        rw [eG] at sb3
        have few2 : G.length ≤ 100 := by rw [rG.valid.len]; omega
        refine ⟨_, rfl, l, _, 0, _, rfl, rfl, .inl (.inl (sm3 _ _ ele)), atI_nat (j := 0) rfl, _, _, rfl, al_spans few2 sb3 ((keep_same (sme.trans sm3)).spt hg), fun H4 sm4 => ⟨true, rfl, iteT ?_⟩⟩
        refine ⟨_, rfl, t, hs, rfl, (keep_same (sm3.trans sm4)).house (kze.house hh), o, fun H5 k5 sm5 n5 l5 => ?_⟩
        obtain ⟨G5, r5, s5, t5, _⟩ := lay_end n5 l5
        have e5 : k5 = j := by rw [← t5, ← tG, reach_end r5 rG sG s5]
        rw [e5]
        exact ⟨_, rfl, _, _, rfl, .inl ⟨_, rfl, rfl⟩, fun H6 _ => q H6⟩
    | cons p0 rest =>
      have nel : lay hs k ≠ [] := by
        rw [← tb, hnt]
        simp [tabOf]
      have kb := lay_bound o nel
      clear hnt
      refine iteT ⟨fun σ' H' => ∃ n nt mv y5 y6 y7 l ads, σ' = [some (.ref a), some (.ref r), some (.ref t), some (.ref n), some mv, y5, y6, y7, some (.ref l), none] ∧ KeepT Hh H' ∧ H' n = some (NDo P w n nt) ∧ KeysAt H' nt ∧ tabOf nt = lay hs (k + 1) ∧
        H' l = some (.lst (ads.map V.ref)) ∧ Paired (SpT H') ads ((lay hs k).map (·.1)) ∧ mv = .int ((lay hs k).map (·.2)).sum, fun σ' H' z => ?_, ?_⟩
      · obtain ⟨n', nt', mv', z5, z6, z7, l', ads', e1, e2, e3, e4, e5, e6, e7, e8⟩ := z
        exact ⟨14 - (k + 1), by omega, k + 1, n', nt', mv', z5, z6, z7, _, e1, e2, e3, e4, e5, .inr ⟨l', ads', rfl, e6, e7, e8, nel, Nat.le_add_left _ _⟩, rfl⟩
      -- later, many
      dsimp only
      refine seq_par fun d nd => ?_
      have smd : Same He (upd He d (NDo P w d [])) := same_new nd
      have ed : upd He d (NDo P w d []) d = some (NDo P w d []) := upd_same
      have ene := sme _ _ ent
      have ndn : d ≠ n := fun z => by rw [z, ene] at nd; cases nd
      refine ⟨_, rfl, n, nt, rfl, .inl (smd _ _ ene), fun v nv => ?_⟩
      have smv : Same (upd He d (NDo P w d [])) (upd (upd He d (NDo P w d [])) v (NVo v n)) := same_new nv
      refine ⟨v, n, nt, rfl, upd_same, .inl (smv _ _ (smd _ _ ene)), _, _, rfl, ?_⟩
      have env : (upd (upd He d (NDo P w d [])) v (NVo v n)) n = some (NDo P w n nt) := smv _ _ (smd _ _ ene)
      have edv : (upd (upd He d (NDo P w d [])) v (NVo v n)) d = some (NDo P w d []) := smv _ _ ed
      have kzv : KeepT Hz (upd (upd He d (NDo P w d [])) v (NVo v n)) := keep_same (sme.trans (smd.trans smv))
      -- now is locked
      refine ⟨n, _, env, trivial, fun od => ?_⟩
      have sxl : SameX n (upd (upd He d (NDo P w d [])) v (NVo v n)) (upd (upd (upd He d (NDo P w d [])) v (NVo v n)) n (.frz od (NDo P w n nt))) := SameX.upd _ _ _
      have enl : (upd (upd (upd He d (NDo P w d [])) v (NVo v n)) n (.frz od (NDo P w n nt))) n = some (.frz od (NDo P w n nt)) := upd_same
      have edl : (upd (upd (upd He d (NDo P w d [])) v (NVo v n)) n (.frz od (NDo P w n nt))) d = some (NDo P w d []) := by rw [upd_ne ndn]; exact edv
      have kal : KeepT Hz (upd (upd (upd He d (NDo P w d [])) v (NVo v n)) n (.frz od (NDo P w n nt))) := kzv.trans (sxl.keepD env)
      have ksl : KeysAt (upd (upd (upd He d (NDo P w d [])) v (NVo v n)) n (.frz od (NDo P w n nt))) nt := kal.keys ks
      refine ⟨_, rfl, n, od, nt, rfl, enl, ?_⟩
      have keepX : ∀ {Hx}, SameX d (upd (upd (upd He d (NDo P w d [])) v (NVo v n)) n (.frz od (NDo P w n nt))) Hx → KeepT (upd (upd (upd He d (NDo P w d [])) v (NVo v n)) n (.frz od (NDo P w n nt))) Hx := fun sx => sx.keepD edl
      refine for_it walk_nk (fun j σ Hx => (∃ y6 y7, σ = [some (.ref a), some (.ref r), some (.ref t), some (.ref n), some (.int (sumN nt)), some (.ref d), y6, y7, y8, none]) ∧ SameX d (upd (upd (upd He d (NDo P w d [])) v (NVo v n)) n (.frz od (NDo P w n nt))) Hx ∧ ∃ lt, Hx d = some (NDo P w d lt) ∧ KeysAt Hx lt ∧ tabOf lt = ((lay hs k).take j).foldl (spread hs) [])
        ⟨⟨_, _, rfl⟩, SameX.refl _ _, [], edl, (fun p hp => nomatch hp), rfl⟩ (fun j σ Hx _ z => z.2.1 _ _ ndn.symm enl) (fun j x σ Hx Hy hj z y => ?_) fun σ Hx z => ?_
      · obtain ⟨⟨y6, y7, rfl⟩, sx, lt, elt, kl, tl⟩ := z
        obtain ⟨rfl, p, hp, rfl⟩ := y
        have tp := tab_get hp
        rw [tb] at tp
        obtain ⟨s, b1, v1⟩ := p
        have rcs : Reach hs s := ((lay_ok (hs := hs) k).2 s (List.mem_map.mpr ⟨_, List.mem_of_getElem? tp, rfl⟩)).1
        have klx : KeepT (upd (upd (upd He d (NDo P w d [])) v (NVo v n)) n (.frz od (NDo P w n nt))) Hy := keepX sx
        have sps : SpT Hy b1 s := klx.spt (ksl (s, b1, v1) (List.mem_of_getElem? hp))
        refine ⟨_, rfl, _, rfl, t, hs, b1, s, rfl, (kz.trans (kal.trans klx)).house hh, o, sps, rcs.valid, fun H3 l rs sm3 el pr => ?_⟩
        have sx3 : SameX d (upd (upd (upd He d (NDo P w d [])) v (NVo v n)) n (.frz od (NDo P w n nt))) H3 := sx.trans (.of sm3)
        have elt3 : H3 d = some (NDo P w d lt) := sm3 _ _ elt
        have nld : l ≠ d := fun z => by rw [z, elt3] at el; exact nomatch el
        have k3 : KeepT Hy H3 := keep_same sm3
        have en3 : H3 n = some (.frz od (NDo P w n nt)) := sx3 _ _ ndn.symm enl
        have gv : getN nt s = some v1 := by
          rw [getN_tab, tb]
          exact get_mem (lay_ok (hs := hs) k).1 (List.mem_of_getElem? tp)
        refine ⟨l, rfl, ⟨_, .inl (.inl el)⟩, ?_⟩
        refine for_it (walk_list (xs := rs.map V.ref)) (fun i σ Hw => (∃ y7, σ = [some (.ref a), some (.ref r), some (.ref t), some (.ref n), some (.int (sumN nt)), some (.ref d), some (.ref b1), y7, y8, none]) ∧ SameX d H3 Hw ∧ ∃ lt, Hw d = some (NDo P w d lt) ∧ KeysAt Hw lt ∧ tabOf lt = ((steps hs s).take i).foldl (addTo v1) (((lay hs k).take j).foldl (spread hs) []))
          ⟨⟨_, rfl⟩, SameX.refl _ _, lt, elt3, k3.keys kl, tl⟩ (fun i σ Hw _ z => .inl (.inl (z.2.1 _ _ nld el))) (fun i x σ Hw Hv hi z y => ?_) fun σ Hw z => ?_
        · obtain ⟨⟨y7, rfl⟩, sxw, lt2, elw, klw, tlw⟩ := z
          obtain ⟨rfl, hx⟩ := y
          obtain ⟨b2, t', rfl, ht, s3⟩ : ∃ b2 t', x = .ref b2 ∧ (steps hs s)[i]? = some t' ∧ SpT H3 b2 t' := by
            rw [List.getElem?_map] at hx
            cases hr2 : rs[i]? with
            | none => rw [hr2] at hx; cases hx
            | some r2 =>
              rw [hr2] at hx
              obtain ⟨t', ht, st⟩ := paired_get pr hr2
              exact ⟨r2, t', (Option.some.inj hx).symm, ht, st⟩
          have kw : KeepT H3 Hv := sxw.keepD elt3
          have s2 := kw.spt s3
          have ksw : KeysAt Hv nt := kw.keys (k3.keys (klx.keys ksl))
          have fewl : lt2.length ≤ 10000 := by
            rw [← tab_len, tlw]
            exact part_few o tp
          have enw : Hv n = some (.frz od (NDo P w n nt)) := sxw _ _ ndn.symm en3
          refine ⟨_, rfl, d, lt2, rfl, .inl elw, _, rfl, b2, t', 0, rfl, rfl, .inl elw, klw, s2, _, rfl, _, rfl, n, nt, b1, s, v1, rfl, rfl, .inr ⟨od, enw⟩, ksw, kw.spt (k3.spt sps), gv, _, _, rfl, rfl, _, rfl, _, rfl, d, lt2, b2, t', _, rfl, rfl, rfl, elw, klw, s2, by rw [sizeLine_eq]; omega, ?_⟩
          have kz2 : KeepT Hv (upd Hv d (NDo P w d (putN lt2 t' b2 ((getN lt2 t').getD 0 + v1)))) := nd_keepT elw
          refine ⟨⟨_, rfl⟩, sxw.trans (SameX.upd _ _ _), _, upd_same, kz2.keys (putN_keys klw s2), ?_⟩
          rw [tab_put, getN_tab, tlw, addAll_snoc ht]
          rfl
        · obtain ⟨⟨y7, rfl⟩, sxw, lt2, elw, klw, tlw⟩ := z
          have e := Paired.length pr
          rw [List.length_map, e, List.take_length] at tlw
          refine ⟨⟨_, _, rfl⟩, sx3.trans sxw, lt2, elw, klw, ?_⟩
          rw [tlw, spread_snoc tp]
      · obtain ⟨⟨y6, y7, rfl⟩, sx, lt, elt, kl, tl⟩ := z
        have tl : tabOf lt = lay hs (k + 1) := by
          rw [tl, ← tab_len, tb, List.take_length]
          rfl
        have enx := sx _ _ ndn.symm enl
        refine ⟨enx, ?_⟩
        -- unlocked
        have kux : KeepT Hx (upd Hx n (NDo P w n nt)) := upd_keepT fun xs z => by
          rw [enx] at z
          exact nomatch z
        have ku : KeepT Hz (upd Hx n (NDo P w n nt)) := kal.trans ((keepX sx).trans kux)
        have eu : upd Hx n (NDo P w n nt) n = some (NDo P w n nt) := upd_same
        have edu : upd Hx n (NDo P w n nt) d = some (NDo P w d lt) := by rw [upd_ne ndn]; exact elt
        have klu : KeysAt (upd Hx n (NDo P w n nt)) lt := kux.keys kl
        generalize upd Hx n (NDo P w n nt) = Hu at ku eu edu klu
        refine ⟨_, rfl, n, nt, rfl, .inl eu, fun l nl => ⟨_, rfl, _, _, rfl, ?_⟩⟩
        have sml : Same Hu (upd Hu l (.lst (nt.map fun p => V.ref p.2.1))) := same_new nl
        refine ⟨d, lt, _, _, _, _, l, nt.map fun p => p.2.1, rfl, kz.trans (ku.trans (keep_same sml)), sml _ _ edu, (keep_same sml).keys klu, tl, ?_, ?_, ?_⟩
        · rw [upd_same, List.map_map]; rfl
        · rw [← tb, tab_keys]
          exact Paired.of_map fun p hp => (keep_same sml).spt (ku.spt (ks p hp))
        · rw [tab_sum, tb]
end
end K76

set_option Elab.async false
set_option linter.all false
set_option maxRecDepth 100000
/-! k76: the end. -/
namespace K76
open PySem PySem.Spec PyProof.Rows L2
theorem sc_only {K : PySem.W.Frag} {H : Hp} {a : Addr} {xs : List V} (o : Only H) (h : SqL K H a xs) : ScAt K H a xs := by
  rcases h with (e | ⟨ob, e⟩) | e
  · rcases o a with z | ⟨_, _, z⟩
    · rw [z] at e; cases e
    · rw [z] at e; cases e
  · exact .inl ⟨ob, e⟩
  · exact .inr e
theorem df_mk {K : PySem.W.Frag} {h : Heap} {mg : Str → Option Value} (X : K.In h) (G : h.Ns mainGlobals mg) {nm : Str} {st : Stmt} {ps : List Str} {f : Addr} {oc kV doc pm cdv ct : Value} {od an : Option Addr} {osl : Array (Option Value)}
    (a : PySem.W.nsIn K mainGlobals nm = some (some (.ref f))) (l : K.lookup f = some ⟨oc, od, .func (PySem.W.fnOf nm nm (defArgs st) (defBody st) (defScope st) .none kV doc pm an cdv ct), osl⟩) (c : PySem.W.codeIn K cdv nm = true) (k : PySem.W.keepIn K (.ref f) = true)
    (hb : ∀ (kV doc pm : Value) (an : Option Addr) (cdv ct : Value) (us : List Value), us.length = ps.length → bindArgs (PySem.W.fnOf nm nm (defArgs st) (defBody st) (defScope st) .none kV doc pm an cdv ct) ⟨us, []⟩ = pure (ps.zip us)) : ∃ f fd, Df K mg nm st ps f fd := by
  have F := fun_mk l c k
  exact ⟨f, _, F, F.binds hb, PySem.W.mg_of X G a⟩
theorem all_mk {l : PySem.W.OpenLaw} {w : World} {K : PySem.W.Frag} {h : Heap} {mg : Str → Option Value} {fa f0 f1 f2 f3 f4 f5 f6 f7 f8 f9 f10 f11 f12 f13 f14 f15 f16 f17 f18 f19 f20 f21 f22 f23 : Addr} (X : K.In h) (G : h.Ns mainGlobals mg) (hfa : mg "law" = some (.ref fa))
    {od0 an0 od1 an1 od2 an2 od3 an3 od4 an4 od5 an5 od6 an6 od7 an7 od8 an8 od9 an9 od10 an10 od11 an11 od12 an12 od13 an13 od14 an14 od15 an15 od16 an16 od17 an17 od18 an18 od19 an19 od20 an20 od21 an21 od22 an22 od23 an23 : Option Addr} {sl0 sl1 sl2 sl3 sl4 sl5 sl6 sl7 sl8 sl9 sl10 sl11 sl12 sl13 sl14 sl15 sl16 sl17 sl18 sl19 sl20 sl21 sl22 sl23 : Array (Option Value)} {o0 v0 d0 p0 c0 t0 o1 v1 d1 p1 c1 t1 o2 v2 d2 p2 c2 t2 o3 v3 d3 p3 c3 t3 o4 v4 d4 p4 c4 t4 o5 v5 d5 p5 c5 t5 o6 v6 d6 p6 c6 t6 o7 v7 d7 p7 c7 t7 o8 v8 d8 p8 c8 t8 o9 v9 d9 p9 c9 t9 o10 v10 d10 p10 c10 t10 o11 v11 d11 p11 c11 t11 o12 v12 d12 p12 c12 t12 o13 v13 d13 p13 c13 t13 o14 v14 d14 p14 c14 t14 o15 v15 d15 p15 c15 t15 o16 v16 d16 p16 c16 t16 o17 v17 d17 p17 c17 t17 o18 v18 d18 p18 c18 t18 o19 v19 d19 p19 c19 t19 o20 v20 d20 p20 c20 t20 o21 v21 d21 p21 c21 t21 o22 v22 d22 p22 c22 t22 o23 v23 d23 p23 c23 t23 : Value} {k1 k2 k3 k4 : Tok}
    (a0 : PySem.W.nsIn K mainGlobals "is_int" = some (some (.ref f0))) (l0 : K.lookup f0 = some ⟨o0, od0, .func (PySem.W.fnOf "is_int" "is_int" (defArgs sInt) (defBody sInt) (defScope sInt) .none v0 d0 p0 an0 c0 t0), sl0⟩) (e0 : PySem.W.codeIn K c0 "is_int" = true) (g0 : PySem.W.keepIn K (.ref f0) = true)
    (a1 : PySem.W.nsIn K mainGlobals "is_in" = some (some (.ref f1))) (l1 : K.lookup f1 = some ⟨o1, od1, .func (PySem.W.fnOf "is_in" "is_in" (defArgs sIn) (defBody sIn) (defScope sIn) .none v1 d1 p1 an1 c1 t1), sl1⟩) (e1 : PySem.W.codeIn K c1 "is_in" = true) (g1 : PySem.W.keepIn K (.ref f1) = true)
    (a2 : PySem.W.nsIn K mainGlobals "is_set" = some (some (.ref f2))) (l2 : K.lookup f2 = some ⟨o2, od2, .func (PySem.W.fnOf "is_set" "is_set" (defArgs sSet) (defBody sSet) (defScope sSet) .none v2 d2 p2 an2 c2 t2), sl2⟩) (e2 : PySem.W.codeIn K c2 "is_set" = true) (g2 : PySem.W.keepIn K (.ref f2) = true)
    (a3 : PySem.W.nsIn K mainGlobals "need_lane" = some (some (.ref f3))) (l3 : K.lookup f3 = some ⟨o3, od3, .func (PySem.W.fnOf "need_lane" "need_lane" (defArgs sNeedL) (defBody sNeedL) (defScope sNeedL) .none v3 d3 p3 an3 c3 t3), sl3⟩) (e3 : PySem.W.codeIn K c3 "need_lane" = true) (g3 : PySem.W.keepIn K (.ref f3) = true)
    (a4 : PySem.W.nsIn K mainGlobals "sides_of" = some (some (.ref f4))) (l4 : K.lookup f4 = some ⟨o4, od4, .func (PySem.W.fnOf "sides_of" "sides_of" (defArgs sSides) (defBody sSides) (defScope sSides) .none v4 d4 p4 an4 c4 t4), sl4⟩) (e4 : PySem.W.codeIn K c4 "sides_of" = true) (g4 : PySem.W.keepIn K (.ref f4) = true)
    (a5 : PySem.W.nsIn K mainGlobals "left_room" = some (some (.ref f5))) (l5 : K.lookup f5 = some ⟨o5, od5, .func (PySem.W.fnOf "left_room" "left_room" (defArgs sLR) (defBody sLR) (defScope sLR) .none v5 d5 p5 an5 c5 t5), sl5⟩) (e5 : PySem.W.codeIn K c5 "left_room" = true) (g5 : PySem.W.keepIn K (.ref f5) = true)
    (a6 : PySem.W.nsIn K mainGlobals "right_room" = some (some (.ref f6))) (l6 : K.lookup f6 = some ⟨o6, od6, .func (PySem.W.fnOf "right_room" "right_room" (defArgs sRR) (defBody sRR) (defScope sRR) .none v6 d6 p6 an6 c6 t6), sl6⟩) (e6 : PySem.W.codeIn K c6 "right_room" = true) (g6 : PySem.W.keepIn K (.ref f6) = true)
    (a7 : PySem.W.nsIn K mainGlobals "left_door" = some (some (.ref f7))) (l7 : K.lookup f7 = some ⟨o7, od7, .func (PySem.W.fnOf "left_door" "left_door" (defArgs sLD) (defBody sLD) (defScope sLD) .none v7 d7 p7 an7 c7 t7), sl7⟩) (e7 : PySem.W.codeIn K c7 "left_door" = true) (g7 : PySem.W.keepIn K (.ref f7) = true)
    (a8 : PySem.W.nsIn K mainGlobals "right_door" = some (some (.ref f8))) (l8 : K.lookup f8 = some ⟨o8, od8, .func (PySem.W.fnOf "right_door" "right_door" (defArgs sRD) (defBody sRD) (defScope sRD) .none v8 d8 p8 an8 c8 t8), sl8⟩) (e8 : PySem.W.codeIn K c8 "right_door" = true) (g8 : PySem.W.keepIn K (.ref f8) = true)
    (a9 : PySem.W.nsIn K mainGlobals "had_of" = some (some (.ref f9))) (l9 : K.lookup f9 = some ⟨o9, od9, .func (PySem.W.fnOf "had_of" "had_of" (defArgs sHad) (defBody sHad) (defScope sHad) .none v9 d9 p9 an9 c9 t9), sl9⟩) (e9 : PySem.W.codeIn K c9 "had_of" = true) (g9 : PySem.W.keepIn K (.ref f9) = true)
    (a10 : PySem.W.nsIn K mainGlobals "need_house" = some (some (.ref f10))) (l10 : K.lookup f10 = some ⟨o10, od10, .func (PySem.W.fnOf "need_house" "need_house" (defArgs sNeedH) (defBody sNeedH) (defScope sNeedH) .none v10 d10 p10 an10 c10 t10), sl10⟩) (e10 : PySem.W.codeIn K c10 "need_house" = true) (g10 : PySem.W.keepIn K (.ref f10) = true)
    (a11 : PySem.W.nsIn K mainGlobals "house_had" = some (some (.ref f11))) (l11 : K.lookup f11 = some ⟨o11, od11, .func (PySem.W.fnOf "house_had" "house_had" (defArgs sHH) (defBody sHH) (defScope sHH) .none v11 d11 p11 an11 c11 t11), sl11⟩) (e11 : PySem.W.codeIn K c11 "house_had" = true) (g11 : PySem.W.keepIn K (.ref f11) = true)
    (a12 : PySem.W.nsIn K mainGlobals "house_steps" = some (some (.ref f12))) (l12 : K.lookup f12 = some ⟨o12, od12, .func (PySem.W.fnOf "house_steps" "house_steps" (defArgs sHS) (defBody sHS) (defScope sHS) .none v12 d12 p12 an12 c12 t12), sl12⟩) (e12 : PySem.W.codeIn K c12 "house_steps" = true) (g12 : PySem.W.keepIn K (.ref f12) = true)
    (a13 : PySem.W.nsIn K mainGlobals "house_seen" = some (some (.ref f13))) (l13 : K.lookup f13 = some ⟨o13, od13, .func (PySem.W.fnOf "house_seen" "house_seen" (defArgs sSeen) (defBody sSeen) (defScope sSeen) .none v13 d13 p13 an13 c13 t13), sl13⟩) (e13 : PySem.W.codeIn K c13 "house_seen" = true) (g13 : PySem.W.keepIn K (.ref f13) = true)
    (a14 : PySem.W.nsIn K mainGlobals "house_plays" = some (some (.ref f14))) (l14 : K.lookup f14 = some ⟨o14, od14, .func (PySem.W.fnOf "house_plays" "house_plays" (defArgs sPlays) (defBody sPlays) (defScope sPlays) .none v14 d14 p14 an14 c14 t14), sl14⟩) (e14 : PySem.W.codeIn K c14 "house_plays" = true) (g14 : PySem.W.keepIn K (.ref f14) = true)
    (a15 : PySem.W.nsIn K mainGlobals "_law_taken" = some (some (.ref f15))) (l15 : K.lookup f15 = some ⟨o15, od15, .func (PySem.W.fnOf "_law_taken" "_law_taken" (defArgs sTak) (defBody sTak) (defScope sTak) .none v15 d15 p15 an15 c15 t15), sl15⟩) (e15 : PySem.W.codeIn K c15 "_law_taken" = true) (g15 : PySem.W.keepIn K (.ref f15) = true)
    (a16 : PySem.W.nsIn K mainGlobals "_law_pick" = some (some (.ref f16))) (l16 : K.lookup f16 = some ⟨o16, od16, .func (PySem.W.fnOf "_law_pick" "_law_pick" (defArgs sPick) (defBody sPick) (defScope sPick) .none v16 d16 p16 an16 c16 t16), sl16⟩) (e16 : PySem.W.codeIn K c16 "_law_pick" = true) (g16 : PySem.W.keepIn K (.ref f16) = true)
    (a17 : PySem.W.nsIn K mainGlobals "_law_alike" = some (some (.ref f17))) (l17 : K.lookup f17 = some ⟨o17, od17, .func (PySem.W.fnOf "_law_alike" "_law_alike" (defArgs sAl) (defBody sAl) (defScope sAl) .none v17 d17 p17 an17 c17 t17), sl17⟩) (e17 : PySem.W.codeIn K c17 "_law_alike" = true) (g17 : PySem.W.keepIn K (.ref f17) = true)
    (a18 : PySem.W.nsIn K mainGlobals "_law_lane" = some (some (.ref f18))) (l18 : K.lookup f18 = some ⟨o18, od18, .func (PySem.W.fnOf "_law_lane" "_law_lane" (defArgs sLane) (defBody sLane) (defScope sLane) .none v18 d18 p18 an18 c18 t18), sl18⟩) (e18 : PySem.W.codeIn K c18 "_law_lane" = true) (g18 : PySem.W.keepIn K (.ref f18) = true)
    (a19 : PySem.W.nsIn K mainGlobals "_law_sides" = some (some (.ref f19))) (l19 : K.lookup f19 = some ⟨o19, od19, .func (PySem.W.fnOf "_law_sides" "_law_sides" (defArgs sSidesL) (defBody sSidesL) (defScope sSidesL) .none v19 d19 p19 an19 c19 t19), sl19⟩) (e19 : PySem.W.codeIn K c19 "_law_sides" = true) (g19 : PySem.W.keepIn K (.ref f19) = true)
    (a20 : PySem.W.nsIn K mainGlobals "_law_had" = some (some (.ref f20))) (l20 : K.lookup f20 = some ⟨o20, od20, .func (PySem.W.fnOf "_law_had" "_law_had" (defArgs sHadL) (defBody sHadL) (defScope sHadL) .none v20 d20 p20 an20 c20 t20), sl20⟩) (e20 : PySem.W.codeIn K c20 "_law_had" = true) (g20 : PySem.W.keepIn K (.ref f20) = true)
    (a21 : PySem.W.nsIn K mainGlobals "_law_after" = some (some (.ref f21))) (l21 : K.lookup f21 = some ⟨o21, od21, .func (PySem.W.fnOf "_law_after" "_law_after" (defArgs sAft) (defBody sAft) (defScope sAft) .none v21 d21 p21 an21 c21 t21), sl21⟩) (e21 : PySem.W.codeIn K c21 "_law_after" = true) (g21 : PySem.W.keepIn K (.ref f21) = true)
    (a22 : PySem.W.nsIn K mainGlobals "_law_all_steps" = some (some (.ref f22))) (l22 : K.lookup f22 = some ⟨o22, od22, .func (PySem.W.fnOf "_law_all_steps" "_law_all_steps" (defArgs sAll) (defBody sAll) (defScope sAll) .none v22 d22 p22 an22 c22 t22), sl22⟩) (e22 : PySem.W.codeIn K c22 "_law_all_steps" = true) (g22 : PySem.W.keepIn K (.ref f22) = true)
    (a23 : PySem.W.nsIn K mainGlobals "law" = some (some (.ref f23))) (l23 : K.lookup f23 = some ⟨o23, od23, .func (PySem.W.fnOf "law" "law" (defArgs sLaw) (defBody sLaw) (defScope sLaw) .none v23 d23 p23 an23 c23 t23), sl23⟩) (e23 : PySem.W.codeIn K c23 "law" = true) (g23 : PySem.W.keepIn K (.ref f23) = true)
    (z0 : PySem.W.nsIn K mainGlobals "isinstance" = some none)
    (z1 : PySem.W.nsIn K mainGlobals "int" = some none)
    (z2 : PySem.W.nsIn K mainGlobals "bool" = some none)
    (z3 : PySem.W.nsIn K mainGlobals "str" = some none)
    (z4 : PySem.W.nsIn K mainGlobals "all" = some none)
    (z5 : PySem.W.nsIn K mainGlobals "zip" = some none)
    (z6 : PySem.W.nsIn K mainGlobals "tuple" = some none)
    (z7 : PySem.W.nsIn K mainGlobals "len" = some none)
    (z8 : PySem.W.nsIn K mainGlobals "enumerate" = some none)
    (z9 : PySem.W.nsIn K mainGlobals "sorted" = some none)
    (z10 : PySem.W.nsIn K mainGlobals "range" = some none)
    (z11 : PySem.W.nsIn K mainGlobals "list" = some none)
    (z12 : PySem.W.nsIn K mainGlobals "set" = some none)
    (z13 : PySem.W.nsIn K mainGlobals "sum" = some none)
    (q1 : PySem.W.nsIn K mainGlobals "KINDS" = some (some (.str (tx kinds) k1))) (q2 : PySem.W.nsIn K mainGlobals "MOST_ROOMS" = some (some (.int 60 k2))) (q3 : PySem.W.nsIn K mainGlobals "MOST_LANES" = some (some (.int 4 k3))) (q4 : PySem.W.nsIn K mainGlobals "MOST_STATES" = some (some (.int 20000 k4))) :
    ∃ fd : FuncData, (∀ (s : Shared) (v : Value), BindsTo s fd ⟨[v], []⟩ [("_law_script", v)]) ∧ ∀ base : Heap, K.In base → base.Ns mainGlobals mg → FnOk l.prog w K mg base CX0 6 fa fd ["_law_script"] (spLaw K) := by
  have e := hfa.symm.trans (PySem.W.mg_of X G a23)
  cases e
  have D0 : ∃ f fd, Df K mg "is_int" sInt ["value"] f fd := df_mk X G a0 l0 e0 g0 fun _ _ _ _ _ _ us hl => match us, hl with | [_], _ => rfl
  have D1 : ∃ f fd, Df K mg "is_in" sIn ["value", "least", "most"] f fd := df_mk X G a1 l1 e1 g1 fun _ _ _ _ _ _ us hl => match us, hl with | [_, _, _], _ => rfl
  have D2 : ∃ f fd, Df K mg "is_set" sSet ["value"] f fd := df_mk X G a2 l2 e2 g2 fun _ _ _ _ _ _ us hl => match us, hl with | [_], _ => rfl
  have D3 : ∃ f fd, Df K mg "need_lane" sNeedL ["value"] f fd := df_mk X G a3 l3 e3 g3 fun _ _ _ _ _ _ us hl => match us, hl with | [_], _ => rfl
  have D4 : ∃ f fd, Df K mg "sides_of" sSides ["lane"] f fd := df_mk X G a4 l4 e4 g4 fun _ _ _ _ _ _ us hl => match us, hl with | [_], _ => rfl
  have D5 : ∃ f fd, Df K mg "left_room" sLR ["lane", "x"] f fd := df_mk X G a5 l5 e5 g5 fun _ _ _ _ _ _ us hl => match us, hl with | [_, _], _ => rfl
  have D6 : ∃ f fd, Df K mg "right_room" sRR ["lane", "y"] f fd := df_mk X G a6 l6 e6 g6 fun _ _ _ _ _ _ us hl => match us, hl with | [_, _], _ => rfl
  have D7 : ∃ f fd, Df K mg "left_door" sLD ["lane", "x"] f fd := df_mk X G a7 l7 e7 g7 fun _ _ _ _ _ _ us hl => match us, hl with | [_, _], _ => rfl
  have D8 : ∃ f fd, Df K mg "right_door" sRD ["lane", "y"] f fd := df_mk X G a8 l8 e8 g8 fun _ _ _ _ _ _ us hl => match us, hl with | [_, _], _ => rfl
  have D9 : ∃ f fd, Df K mg "had_of" sHad ["lane", "span"] f fd := df_mk X G a9 l9 e9 g9 fun _ _ _ _ _ _ us hl => match us, hl with | [_, _], _ => rfl
  have D10 : ∃ f fd, Df K mg "need_house" sNeedH ["value"] f fd := df_mk X G a10 l10 e10 g10 fun _ _ _ _ _ _ us hl => match us, hl with | [_], _ => rfl
  have D11 : ∃ f fd, Df K mg "house_had" sHH ["house", "spans"] f fd := df_mk X G a11 l11 e11 g11 fun _ _ _ _ _ _ us hl => match us, hl with | [_, _], _ => rfl
  have D12 : ∃ f fd, Df K mg "house_steps" sHS ["house", "spans"] f fd := df_mk X G a12 l12 e12 g12 fun _ _ _ _ _ _ us hl => match us, hl with | [_, _], _ => rfl
  have D13 : ∃ f fd, Df K mg "house_seen" sSeen ["house"] f fd := df_mk X G a13 l13 e13 g13 fun _ _ _ _ _ _ us hl => match us, hl with | [_], _ => rfl
  have D14 : ∃ f fd, Df K mg "house_plays" sPlays ["house"] f fd := df_mk X G a14 l14 e14 g14 fun _ _ _ _ _ _ us hl => match us, hl with | [_], _ => rfl
  have D15 : ∃ f fd, Df K mg "_law_taken" sTak ["_law_row", "_law_many"] f fd := df_mk X G a15 l15 e15 g15 fun _ _ _ _ _ _ us hl => match us, hl with | [_, _], _ => rfl
  have D16 : ∃ f fd, Df K mg "_law_pick" sPick ["_law_row", "_law_things"] f fd := df_mk X G a16 l16 e16 g16 fun _ _ _ _ _ _ us hl => match us, hl with | [_, _], _ => rfl
  have D17 : ∃ f fd, Df K mg "_law_alike" sAl ["_law_found", "_law_due"] f fd := df_mk X G a17 l17 e17 g17 fun _ _ _ _ _ _ us hl => match us, hl with | [_, _], _ => rfl
  have D18 : ∃ f fd, Df K mg "_law_lane" sLane ["_law_row", "_law_most"] f fd := df_mk X G a18 l18 e18 g18 fun _ _ _ _ _ _ us hl => match us, hl with | [_, _], _ => rfl
  have D19 : ∃ f fd, Df K mg "_law_sides" sSidesL ["_law_lane_here"] f fd := df_mk X G a19 l19 e19 g19 fun _ _ _ _ _ _ us hl => match us, hl with | [_], _ => rfl
  have D20 : ∃ f fd, Df K mg "_law_had" sHadL ["_law_lane_here", "_law_span"] f fd := df_mk X G a20 l20 e20 g20 fun _ _ _ _ _ _ us hl => match us, hl with | [_, _], _ => rfl
  have D21 : ∃ f fd, Df K mg "_law_after" sAft ["_law_span", "_law_sign"] f fd := df_mk X G a21 l21 e21 g21 fun _ _ _ _ _ _ us hl => match us, hl with | [_, _], _ => rfl
  have D22 : ∃ f fd, Df K mg "_law_all_steps" sAll ["_law_house", "_law_spans"] f fd := df_mk X G a22 l22 e22 g22 fun _ _ _ _ _ _ us hl => match us, hl with | [_, _], _ => rfl
  have F := fun_mk (st := sLaw) l23 e23 g23
  have B : Bt mg := ⟨PySem.W.mg_none_of X G z0, PySem.W.mg_none_of X G z1, PySem.W.mg_none_of X G z2, PySem.W.mg_none_of X G z3, PySem.W.mg_none_of X G z4, PySem.W.mg_none_of X G z5, PySem.W.mg_none_of X G z6, PySem.W.mg_none_of X G z7, PySem.W.mg_none_of X G z8, PySem.W.mg_none_of X G z9, PySem.W.mg_none_of X G z10, PySem.W.mg_none_of X G z11, PySem.W.mg_none_of X G z12, PySem.W.mg_none_of X G z13⟩
  have Hx : Hd K mg := ⟨D11, D9, D5, D6, D7, D8, D4⟩
  have Nx : Nd K mg := ⟨D10, D3, D1, D0, D2, ⟨_, PySem.W.mg_of X G q1⟩, ⟨_, PySem.W.mg_of X G q2⟩, ⟨_, PySem.W.mg_of X G q3⟩⟩
  have Lx : Ld K mg := ⟨D15, D16, D17, D18, D19, D20, D21, D22, D12, D13, D14, ⟨_, PySem.W.mg_of X G q4⟩⟩
  exact ⟨_, fun s v => .of_eq rfl, fun base _ _ => ok_law F Lx Hx Nx B⟩
end K76
open PySem PySem.W PyProof.Rows
set_option maxHeartbeats 0 in
theorem PySem.Challenge.cw_keylanes_k76_whole_houses_holds : PySem.Challenge.rw_keylanes_k76_whole_houses.Holds := by
  w_on; o_law; k_head; (case hw => w_witness2)
  k_fill
  refine L2.walk_of (l := PySem.Challenge.rw_keylanes_k76_whole_houses) (n := 63) (k := 6) (x := "_law_script") (CX := fun _ => L2.CX0) (sp := fun w => K76.spLaw _) rfl (by decide) rfl ⟨rfl, by decide, by decide⟩ (fun w h Y => PySem.W.kIn_of Y) ?F (fun _ _ a ns hl hO hS => ⟨a, ns, rfl, K76.sc_only hO hS, hl, fun _ => rfl⟩) (fun _ _ _ _ _ h => h)
  case F =>
    intro w mg fa h KX G hmg
    refine' K76.all_mk KX G hmg ?kw0a ?kw0l ?kw0e ?kw0g ?kw1a ?kw1l ?kw1e ?kw1g ?kw2a ?kw2l ?kw2e ?kw2g ?kw3a ?kw3l ?kw3e ?kw3g ?kw4a ?kw4l ?kw4e ?kw4g ?kw5a ?kw5l ?kw5e ?kw5g ?kw6a ?kw6l ?kw6e ?kw6g ?kw7a ?kw7l ?kw7e ?kw7g ?kw8a ?kw8l ?kw8e ?kw8g ?kw9a ?kw9l ?kw9e ?kw9g ?kw10a ?kw10l ?kw10e ?kw10g ?kw11a ?kw11l ?kw11e ?kw11g ?kw12a ?kw12l ?kw12e ?kw12g ?kw13a ?kw13l ?kw13e ?kw13g ?kw14a ?kw14l ?kw14e ?kw14g ?kw15a ?kw15l ?kw15e ?kw15g ?kw16a ?kw16l ?kw16e ?kw16g ?kw17a ?kw17l ?kw17e ?kw17g ?kw18a ?kw18l ?kw18e ?kw18g ?kw19a ?kw19l ?kw19e ?kw19g ?kw20a ?kw20l ?kw20e ?kw20g ?kw21a ?kw21l ?kw21e ?kw21g ?kw22a ?kw22l ?kw22e ?kw22g ?kw23a ?kw23l ?kw23e ?kw23g ?kw0z ?kw1z ?kw2z ?kw3z ?kw4z ?kw5z ?kw6z ?kw7z ?kw8z ?kw9z ?kw10z ?kw11z ?kw12z ?kw13z ?kw1q ?kw2q ?kw3q ?kw4q
    (case kw0a => k_is)
    (case kw0l => k_is)
    (case kw0e => k_is)
    (case kw0g => k_is)
    (case kw1a => k_is)
    (case kw1l => k_is)
    (case kw1e => k_is)
    (case kw1g => k_is)
    (case kw2a => k_is)
    (case kw2l => k_is)
    (case kw2e => k_is)
    (case kw2g => k_is)
    (case kw3a => k_is)
    (case kw3l => k_is)
    (case kw3e => k_is)
    (case kw3g => k_is)
    (case kw4a => k_is)
    (case kw4l => k_is)
    (case kw4e => k_is)
    (case kw4g => k_is)
    (case kw5a => k_is)
    (case kw5l => k_is)
    (case kw5e => k_is)
    (case kw5g => k_is)
    (case kw6a => k_is)
    (case kw6l => k_is)
    (case kw6e => k_is)
    (case kw6g => k_is)
    (case kw7a => k_is)
    (case kw7l => k_is)
    (case kw7e => k_is)
    (case kw7g => k_is)
    (case kw8a => k_is)
    (case kw8l => k_is)
    (case kw8e => k_is)
    (case kw8g => k_is)
    (case kw9a => k_is)
    (case kw9l => k_is)
    (case kw9e => k_is)
    (case kw9g => k_is)
    (case kw10a => k_is)
    (case kw10l => k_is)
    (case kw10e => k_is)
    (case kw10g => k_is)
    (case kw11a => k_is)
    (case kw11l => k_is)
    (case kw11e => k_is)
    (case kw11g => k_is)
    (case kw12a => k_is)
    (case kw12l => k_is)
    (case kw12e => k_is)
    (case kw12g => k_is)
    (case kw13a => k_is)
    (case kw13l => k_is)
    (case kw13e => k_is)
    (case kw13g => k_is)
    (case kw14a => k_is)
    (case kw14l => k_is)
    (case kw14e => k_is)
    (case kw14g => k_is)
    (case kw15a => k_is)
    (case kw15l => k_is)
    (case kw15e => k_is)
    (case kw15g => k_is)
    (case kw16a => k_is)
    (case kw16l => k_is)
    (case kw16e => k_is)
    (case kw16g => k_is)
    (case kw17a => k_is)
    (case kw17l => k_is)
    (case kw17e => k_is)
    (case kw17g => k_is)
    (case kw18a => k_is)
    (case kw18l => k_is)
    (case kw18e => k_is)
    (case kw18g => k_is)
    (case kw19a => k_is)
    (case kw19l => k_is)
    (case kw19e => k_is)
    (case kw19g => k_is)
    (case kw20a => k_is)
    (case kw20l => k_is)
    (case kw20e => k_is)
    (case kw20g => k_is)
    (case kw21a => k_is)
    (case kw21l => k_is)
    (case kw21e => k_is)
    (case kw21g => k_is)
    (case kw22a => k_is)
    (case kw22l => k_is)
    (case kw22e => k_is)
    (case kw22g => k_is)
    (case kw23a => k_is)
    (case kw23l => k_is)
    (case kw23e => k_is)
    (case kw23g => k_is)
    (case kw0z => k_is)
    (case kw1z => k_is)
    (case kw2z => k_is)
    (case kw3z => k_is)
    (case kw4z => k_is)
    (case kw5z => k_is)
    (case kw6z => k_is)
    (case kw7z => k_is)
    (case kw8z => k_is)
    (case kw9z => k_is)
    (case kw10z => k_is)
    (case kw11z => k_is)
    (case kw12z => k_is)
    (case kw13z => k_is)
    (case kw1q => k_is)
    (case kw2q => k_is)
    (case kw3q => k_is)
    (case kw4q => k_is)

