import PyProof.Rows.All
import Wide.All
import OpenK.AllK
import Wide.FinOn
import PyProof.InstEq
import KE.KSortTup
import HandS.ForMost
import HandS.Conv
import HandS.DictComp
import HandS.SortOrd
import HandS.SortRule
import HandS.Rev
import HandS.IsInst
import HandS.Star
import HandS.Style
import HandS.Wide
import HandS.Codes
import HandS.DeepEq
import HandS.Defaults
import HandS.Ends
import PySem.Challenge.RW_equalunlike_k05_whole_laws_of_sets_with
set_option Elab.async false
set_option linter.all false
set_option maxRecDepth 100000
/-! Sets with forms as functions: what stands at each key below 9. No Python here. -/
namespace K5
/-- what stands at a key -/
abbrev Gm (F : Type) := Nat → Option F
section
variable {F : Type}
def lst (g : Gm F) : List (Nat × F) := (List.range 9).filterMap fun k => (g k).map fun f => (k, f)
def siz (g : Gm F) : Nat := (lst g).length
def kys (g : Gm F) : List Nat := (List.range 9).filter fun k => (g k).isSome
def Bd (g : Gm F) : Prop := ∀ k f, g k = some f → k < 9
def look (ps : List (Nat × F)) : Gm F := fun k => ps.lookup k
def orG (g h : Gm F) : Gm F := fun k => (g k).or (h k)
def subG (g h : Gm F) : Gm F := fun k => bif (h k).isSome then none else g k
def keptG (g h : Gm F) : Gm F := fun k => bif (h k).isSome then g k else none
def xorG (g h : Gm F) : Gm F := orG (subG g h) (subG h g)
def andG (g h : Gm F) : Gm F := if siz g < siz h then keptG g h else keptG h g
def nilG : Gm F := fun _ => none
def Same2 (g h : Gm F) : Prop := ∀ k, (g k).isSome = (h k).isSome

theorem mem_lst {g : Gm F} {p : Nat × F} : p ∈ lst g ↔ p.1 < 9 ∧ g p.1 = some p.2 := by
  unfold lst
  rw [List.mem_filterMap]
  constructor
  · rintro ⟨k, hk, e⟩
    cases q : g k with
    | none => rw [q] at e; cases e
    | some f =>
      rw [q] at e
      have e' : (k, f) = p := Option.some.inj e
      subst e'
      exact ⟨List.mem_range.mp hk, q⟩
  · rintro ⟨h1, h2⟩
    refine ⟨p.1, List.mem_range.mpr h1, ?_⟩
    rw [h2]
    rfl
theorem sorted_fm {g : Gm F} : ∀ {l : List Nat}, l.Pairwise (· < ·) → (l.filterMap fun k => (g k).map fun f => (k, f)).Pairwise (fun p q => p.1 < q.1)
  | [], _ => List.Pairwise.nil
  | a :: r, h => by
    obtain ⟨h1, h2⟩ := List.pairwise_cons.mp h
    have ih := sorted_fm (g := g) h2
    rw [List.filterMap_cons]
    cases q : g a with
    | none => exact ih
    | some f =>
      refine List.pairwise_cons.mpr ⟨fun p hp => ?_, ih⟩
      obtain ⟨k, hk, e⟩ := List.mem_filterMap.mp hp
      cases q2 : g k with
      | none => rw [q2] at e; cases e
      | some f2 =>
        rw [q2] at e
        have e' : (k, f2) = p := Option.some.inj e
        subst e'
        exact h1 k hk
theorem lst_sorted (g : Gm F) : (lst g).Pairwise (fun p q => p.1 < q.1) := sorted_fm List.pairwise_lt_range
theorem nodup_of_sorted {l : List (Nat × F)} (h : l.Pairwise (fun p q => p.1 < q.1)) : (l.map (·.1)).Nodup := List.pairwise_map.mpr (h.imp fun z => Nat.ne_of_lt z)
theorem lst_nodup (g : Gm F) : ((lst g).map (·.1)).Nodup := nodup_of_sorted (lst_sorted g)
theorem lst_len (g : Gm F) : (lst g).length ≤ 9 := by
  have h := List.length_filterMap_le (fun k => (g k).map fun f => (k, f)) (List.range 9)
  rw [List.length_range] at h
  exact h
theorem siz_le (g : Gm F) : siz g ≤ 9 := lst_len g
theorem lst_keys (g : Gm F) : (lst g).map (·.1) = kys g := by
  unfold lst kys
  generalize List.range 9 = l
  induction l with
  | nil => rfl
  | cons a r ih =>
    rw [List.filterMap_cons, List.filter_cons]
    cases q : g a with
    | none => simpa using ih
    | some f => simpa using ih
theorem kys_same {g h : Gm F} (e : Same2 g h) : kys g = kys h := List.filter_congr fun k _ => e k
theorem siz_same {g h : Gm F} (e : Same2 g h) : siz g = siz h := by
  unfold siz
  rw [← List.length_map (f := (·.1)), ← List.length_map (f := (·.1)) (as := lst h), lst_keys, lst_keys, kys_same e]

/-! lookup -/
theorem lookup_mem : ∀ {ps : List (Nat × F)} {k : Nat} {f : F}, ps.lookup k = some f → (k, f) ∈ ps
  | [], _, _, h => by cases h
  | (a, b) :: r, k, f, h => by
    rw [List.lookup_cons] at h
    by_cases e : k = a
    · subst e
      rw [beq_self_eq_true] at h
      cases h
      exact List.mem_cons_self
    · rw [beq_false_of_ne e] at h
      exact List.mem_cons_of_mem _ (lookup_mem h)
theorem lookup_none : ∀ {ps : List (Nat × F)} {k : Nat}, ps.lookup k = none → ∀ f, (k, f) ∉ ps
  | [], _, _, _, h => by cases h
  | (a, b) :: r, k, h, f, m => by
    rw [List.lookup_cons] at h
    by_cases e : k = a
    · subst e
      rw [beq_self_eq_true] at h
      cases h
    · rw [beq_false_of_ne e] at h
      rcases List.mem_cons.mp m with q | q
      · exact e (congrArg Prod.fst q)
      · exact lookup_none h f q
theorem lookup_of : ∀ {ps : List (Nat × F)} {k : Nat} {f : F}, (ps.map (·.1)).Nodup → (k, f) ∈ ps → ps.lookup k = some f
  | [], _, _, _, h => by cases h
  | (a, b) :: r, k, f, n, m => by
    have n' : (a :: r.map (·.1)).Nodup := n
    obtain ⟨n1, n2⟩ := List.nodup_cons.mp n'
    rw [List.lookup_cons]
    rcases List.mem_cons.mp m with q | q
    · cases q
      rw [beq_self_eq_true]
    · have e : k ≠ a := fun e => n1 (List.mem_map.mpr ⟨_, q, e⟩)
      rw [beq_false_of_ne e]
      exact lookup_of n2 q
theorem look_eq {g : Gm F} (b : Bd g) {ps : List (Nat × F)} (n : (ps.map (·.1)).Nodup) (h : ∀ p, p ∈ ps ↔ p ∈ lst g) : look ps = g := by
  funext k
  show ps.lookup k = g k
  cases q : g k with
  | some f => exact lookup_of n ((h _).mpr (mem_lst.mpr ⟨b k f q, q⟩))
  | none =>
    cases q2 : ps.lookup k with
    | none => rfl
    | some f =>
      have z := (mem_lst.mp ((h _).mp (lookup_mem q2))).2
      rw [show g k = some f from z] at q
      cases q
theorem look_lst {g : Gm F} (b : Bd g) : look (lst g) = g := look_eq b (lst_nodup g) fun _ => Iff.rfl
theorem look_app (ps qs : List (Nat × F)) : look (ps ++ qs) = orG (look ps) (look qs) := by
  funext k
  show (ps ++ qs).lookup k = (ps.lookup k).or (qs.lookup k)
  induction ps with
  | nil => rfl
  | cons p r ih =>
    obtain ⟨a, b⟩ := p
    rw [List.cons_append, List.lookup_cons, List.lookup_cons]
    cases k == a with
    | true => rfl
    | false => exact ih
theorem look_filter (c : Nat → Bool) (ps : List (Nat × F)) : look (ps.filter fun p => c p.1) = fun k => bif c k then look ps k else none := by
  funext k
  show (ps.filter fun p => c p.1).lookup k = bif c k then ps.lookup k else none
  induction ps with
  | nil =>
    show none = _
    cases c k <;> rfl
  | cons p r ih =>
    obtain ⟨a, b⟩ := p
    rw [List.filter_cons]
    by_cases e : k = a
    · subst e
      cases q : c k with
      | true =>
        simp only [if_true, cond_true]
        rw [List.lookup_cons, List.lookup_cons, beq_self_eq_true]
      | false =>
        simp only [Bool.false_eq_true, if_false]
        rw [ih, q]
        rfl
    · have e2 : (k == a) = false := beq_false_of_ne e
      cases q : c a with
      | true =>
        simp only [if_true]
        rw [List.lookup_cons, List.lookup_cons, e2]
        exact ih
      | false =>
        simp only [Bool.false_eq_true, if_false]
        rw [List.lookup_cons, e2]
        exact ih
theorem bd_look {ps : List (Nat × F)} (h : ∀ p ∈ ps, p.1 < 9) : Bd (look ps) := fun _ _ e => h _ (lookup_mem e)
theorem bd_or {g h : Gm F} (a : Bd g) (b : Bd h) : Bd (orG g h) := fun k f e => by
  have e' : (g k).or (h k) = some f := e
  cases q : g k with
  | some z => exact a k z q
  | none =>
    rw [q] at e'
    exact b k f e'

/-! a sorted rearrangement is the list itself -/
theorem perm_sorted : ∀ {l m : List (Nat × F)}, l.Pairwise (fun p q => p.1 < q.1) → m.Pairwise (fun p q => p.1 < q.1) → (∀ p, p ∈ l ↔ p ∈ m) → l = m
  | [], [], _, _, _ => rfl
  | [], y :: m, _, _, h => absurd ((h y).mpr List.mem_cons_self) (by simp)
  | x :: l, [], _, _, h => absurd ((h x).mp List.mem_cons_self) (by simp)
  | x :: l, y :: m, hl, hm, h => by
    obtain ⟨l1, l2⟩ := List.pairwise_cons.mp hl
    obtain ⟨m1, m2⟩ := List.pairwise_cons.mp hm
    have e : x = y := by
      rcases List.mem_cons.mp ((h x).mp List.mem_cons_self) with q | q
      · exact q
      · rcases List.mem_cons.mp ((h y).mpr List.mem_cons_self) with r | r
        · exact r.symm
        · have a := m1 x q
          have b := l1 y r
          omega
    subst e
    have h2 : ∀ p, p ∈ l ↔ p ∈ m := fun p => by
      constructor
      · intro hp
        rcases List.mem_cons.mp ((h p).mp (List.mem_cons_of_mem _ hp)) with q | q
        · subst q
          exact absurd (l1 p hp) (Nat.lt_irrefl _)
        · exact q
      · intro hp
        rcases List.mem_cons.mp ((h p).mpr (List.mem_cons_of_mem _ hp)) with q | q
        · subst q
          exact absurd (m1 p hp) (Nat.lt_irrefl _)
        · exact q
    rw [perm_sorted l2 m2 h2]

/-! the operations' own laws -/
theorem orG_subG (a b : Gm F) : orG a (subG b a) = orG a b := by
  funext k
  simp only [orG, subG]
  cases a k <;> rfl
theorem subG_subG (a b : Gm F) : subG a (subG a b) = keptG a b := by
  funext k
  simp only [subG, keptG]
  cases a k <;> cases b k <;> rfl
theorem orG_kept (a b : Gm F) : orG (keptG a b) a = a := by
  funext k
  simp only [orG, keptG]
  cases a k <;> cases b k <;> rfl
theorem kept_orG (a b : Gm F) : keptG (orG a b) a = a := by
  funext k
  simp only [orG, keptG]
  cases a k <;> cases b k <;> rfl
theorem orG_assoc (a b c : Gm F) : orG (orG a b) c = orG a (orG b c) := by
  funext k
  simp only [orG]
  cases a k <;> rfl
theorem kept_assoc (a b c : Gm F) : keptG (keptG a b) c = keptG a (keptG b c) := by
  funext k
  simp only [keptG]
  cases a k <;> cases b k <;> cases c k <;> rfl
theorem sub_sub (a b c : Gm F) : subG (subG a b) c = subG a (orG b c) := by
  funext k
  simp only [subG, orG]
  cases b k <;> cases c k <;> rfl
theorem or_sub (a b c : Gm F) : subG (orG a b) c = orG (subG a c) (subG b c) := by
  funext k
  simp only [subG, orG]
  cases c k <;> rfl
theorem xorG_comm (a b : Gm F) : xorG a b = xorG b a := by
  funext k
  simp only [xorG, orG, subG]
  cases a k <;> cases b k <;> rfl
theorem kept_self (a : Gm F) : keptG a a = a := by
  funext k
  simp only [keptG]
  cases a k <;> rfl
theorem andG_self (a : Gm F) : andG a a = a := by
  unfold andG
  rw [if_neg (Nat.lt_irrefl _), kept_self]
theorem orG_self (a : Gm F) : orG a a = a := by
  funext k
  simp only [orG]
  cases a k <;> rfl
theorem subG_self (a : Gm F) : subG a a = nilG := by
  funext k
  simp only [subG, nilG]
  cases a k <;> rfl
/-! keys alone -/
theorem or_some (a b : Gm F) (k : Nat) : (orG a b k).isSome = ((a k).isSome || (b k).isSome) := by
  simp only [orG]
  cases a k <;> cases b k <;> rfl
theorem sub_some (a b : Gm F) (k : Nat) : (subG a b k).isSome = ((a k).isSome && !(b k).isSome) := by
  simp only [subG]
  cases a k <;> cases b k <;> rfl
theorem kept_some (a b : Gm F) (k : Nat) : (keptG a b k).isSome = ((a k).isSome && (b k).isSome) := by
  simp only [keptG]
  cases a k <;> cases b k <;> rfl
theorem and_some (a b : Gm F) (k : Nat) : (andG a b k).isSome = ((a k).isSome && (b k).isSome) := by
  unfold andG
  by_cases h : siz a < siz b
  · rw [if_pos h, kept_some]
  · rw [if_neg h, kept_some, Bool.and_comm]
theorem xor_some (a b : Gm F) (k : Nat) : (xorG a b k).isSome = ((a k).isSome ^^ (b k).isSome) := by
  unfold xorG
  rw [or_some, sub_some, sub_some]
  cases (a k).isSome <;> cases (b k).isSome <;> rfl
theorem keys1 (a b : Gm F) : Same2 (orG a b) (orG b a) := fun k => by rw [or_some, or_some, Bool.or_comm]
theorem keys2 (a b : Gm F) : Same2 (andG a b) (andG b a) := fun k => by rw [and_some, and_some, Bool.and_comm]
theorem keys3 (a b : Gm F) : Same2 (keptG a b) (keptG b a) := fun k => by rw [kept_some, kept_some, Bool.and_comm]
theorem keys4 (a b c : Gm F) : Same2 (andG a (orG b c)) (orG (andG a b) (andG a c)) := fun k => by
  rw [and_some, or_some, or_some, and_some, and_some]
  cases (a k).isSome <;> cases (b k).isSome <;> cases (c k).isSome <;> rfl
theorem keys5 (a b c : Gm F) : Same2 (orG a (andG b c)) (andG (orG a b) (orG a c)) := fun k => by
  rw [or_some, and_some, and_some, or_some, or_some]
  cases (a k).isSome <;> cases (b k).isSome <;> cases (c k).isSome <;> rfl
theorem keys6 (a b c : Gm F) : Same2 (xorG (xorG a b) c) (xorG a (xorG b c)) := fun k => by
  rw [xor_some, xor_some, xor_some, xor_some]
  cases (a k).isSome <;> cases (b k).isSome <;> cases (c k).isSome <;> rfl
theorem keys7 (a b : Gm F) : Same2 (xorG (xorG a b) b) a := fun k => by
  rw [xor_some, xor_some]
  cases (a k).isSome <;> cases (b k).isSome <;> rfl
theorem keys8 (a b : Gm F) : Same2 (xorG a b) (subG (orG a b) (andG a b)) := fun k => by
  rw [xor_some, sub_some, or_some, and_some]
  cases (a k).isSome <;> cases (b k).isSome <;> rfl
/-! the order of an intersection -/
theorem and_lt {a b : Gm F} (h : siz a < siz b) : andG a b = keptG a b := if_pos h
theorem and_ge {a b : Gm F} (h : ¬ siz a < siz b) : andG a b = keptG b a := if_neg h
theorem and_turn {a b : Gm F} (h : siz a ≠ siz b) : andG a b = andG b a := by
  by_cases e : siz a < siz b
  · rw [and_lt e, and_ge (by omega)]
  · rw [and_ge e, and_lt (by omega)]
/-! a dict filled from a list, backwards: the first of equal keys stays -/
def putN (acc : List (Nat × F)) (k : Nat) (z : F) : List (Nat × F) :=
  if (acc.any fun q => decide (q.1 = k)) = true then acc.map (fun q => if q.1 = k then (q.1, z) else q) else acc ++ [(k, z)]
def dkN (qs : List (Nat × F)) : List (Nat × F) := qs.foldl (fun acc p => putN acc p.1 p.2) []
theorem look_map (k j : Nat) (z : F) : ∀ acc : List (Nat × F), (acc.map fun q => if q.1 = k then (q.1, z) else q).lookup j = (acc.lookup j).map fun x => if j = k then z else x
  | [] => rfl
  | (a, b) :: r => by
    have ih := look_map k j z r
    rw [List.map_cons]
    by_cases e : a = k
    · subst e
      rw [if_pos rfl, List.lookup_cons, List.lookup_cons]
      by_cases e2 : j = a
      · subst e2
        simp
      · rw [beq_false_of_ne e2]
        exact ih
    · rw [if_neg e, List.lookup_cons, List.lookup_cons]
      by_cases e2 : j = a
      · subst e2
        simp [e]
      · rw [beq_false_of_ne e2]
        exact ih
theorem any_look (k : Nat) : ∀ acc : List (Nat × F), (acc.any fun q => decide (q.1 = k)) = (acc.lookup k).isSome
  | [] => rfl
  | (a, b) :: r => by
    rw [List.any_cons, List.lookup_cons]
    by_cases e : a = k
    · subst e
      simp
    · rw [beq_false_of_ne (Ne.symm e), decide_eq_false e, Bool.false_or]
      exact any_look k r
theorem look_put (acc : List (Nat × F)) (k j : Nat) (z : F) : (putN acc k z).lookup j = if j = k then some z else acc.lookup j := by
  unfold putN
  rw [any_look]
  by_cases a : (acc.lookup k).isSome = true
  · rw [if_pos a, look_map]
    by_cases e : j = k
    · subst e
      rw [if_pos rfl]
      obtain ⟨x, hx⟩ := Option.isSome_iff_exists.mp a
      rw [hx]
      simp
    · rw [if_neg e]
      cases acc.lookup j with
      | none => rfl
      | some x => simp [e]
  · rw [if_neg a]
    rw [List.lookup_append]
    have a' : acc.lookup k = none := Option.not_isSome_iff_eq_none.mp a
    by_cases e : j = k
    · subst e
      rw [if_pos rfl, a']
      simp
    · rw [if_neg e]
      have q : ([(k, z)] : List (Nat × F)).lookup j = none := by
        rw [List.lookup_cons, beq_false_of_ne e]
        rfl
      rw [q]
      cases acc.lookup j <;> rfl
theorem keys_map (k : Nat) (z : F) (acc : List (Nat × F)) : (acc.map fun q => if q.1 = k then (q.1, z) else q).map (·.1) = acc.map (·.1) := by
  rw [List.map_map]
  refine List.map_congr_left fun q _ => ?_
  show (if q.1 = k then (q.1, z) else q).1 = q.1
  by_cases e : q.1 = k
  · rw [if_pos e]
  · rw [if_neg e]
theorem nodup_put {acc : List (Nat × F)} (k : Nat) (z : F) (h : (acc.map (·.1)).Nodup) : ((putN acc k z).map (·.1)).Nodup := by
  unfold putN
  by_cases a : (acc.any fun q => decide (q.1 = k)) = true
  · rw [if_pos a, keys_map]
    exact h
  · rw [if_neg a, List.map_append]
    refine List.nodup_append.mpr ⟨h, by simp, ?_⟩
    intro x hx y hy
    have ey : y = k := by simpa using hy
    subst ey
    intro e
    subst e
    obtain ⟨q, hq, eq⟩ := List.mem_map.mp hx
    exact a (List.any_eq_true.mpr ⟨q, hq, decide_eq_true eq⟩)
theorem fold_look (j : Nat) : ∀ (qs acc : List (Nat × F)), (qs.foldl (fun acc p => putN acc p.1 p.2) acc).lookup j = (qs.reverse.lookup j).or (acc.lookup j)
  | [], acc => rfl
  | (k, z) :: r, acc => by
    rw [List.foldl_cons, fold_look j r, look_put, List.reverse_cons, List.lookup_append]
    cases r.reverse.lookup j with
    | some x => rfl
    | none =>
      show (if j = k then some z else acc.lookup j) = (([(k, z)] : List (Nat × F)).lookup j).or (acc.lookup j)
      by_cases e : j = k
      · subst e
        simp
      · rw [if_neg e, List.lookup_cons, beq_false_of_ne e]
        rfl
theorem fold_nodup : ∀ (qs acc : List (Nat × F)), (acc.map (·.1)).Nodup → ((qs.foldl (fun acc p => putN acc p.1 p.2) acc).map (·.1)).Nodup
  | [], _, h => h
  | (k, z) :: r, acc, h => fold_nodup r _ (nodup_put k z h)
theorem put_len (acc : List (Nat × F)) (k : Nat) (z : F) : (putN acc k z).length ≤ acc.length + 1 := by
  unfold putN
  split
  · rw [List.length_map]
    omega
  · rw [List.length_append]
    simp
theorem fold_len : ∀ (qs acc : List (Nat × F)), (qs.foldl (fun acc p => putN acc p.1 p.2) acc).length ≤ acc.length + qs.length
  | [], _ => Nat.le_refl _
  | (k, z) :: r, acc => by
    have h1 := fold_len r (putN acc k z)
    have h2 := put_len acc k z
    rw [List.foldl_cons, List.length_cons]
    show _ ≤ acc.length + (r.length + 1)
    have h3 : (List.foldl (fun acc p => putN acc p.1 p.2) (putN acc (k, z).1 (k, z).2) r).length ≤ (putN acc k z).length + r.length := h1
    omega
theorem dk_nodup (qs : List (Nat × F)) : ((dkN qs).map (·.1)).Nodup := fold_nodup qs [] List.nodup_nil
theorem dk_snoc (qs : List (Nat × F)) (p : Nat × F) : dkN (qs ++ [p]) = putN (dkN qs) p.1 p.2 := by
  unfold dkN
  rw [List.foldl_append]
  rfl
theorem nodup_of_keys : ∀ {l : List (Nat × F)}, (l.map (·.1)).Nodup → l.Nodup
  | [], _ => List.nodup_nil
  | p :: r, h => by
    have h' : (p.1 :: r.map (·.1)).Nodup := h
    obtain ⟨h1, h2⟩ := List.nodup_cons.mp h'
    exact List.nodup_cons.mpr ⟨fun m => h1 (List.mem_map.mpr ⟨_, m, rfl⟩), nodup_of_keys h2⟩
theorem perm_look {g : Gm F} (b : Bd g) {l : List (Nat × F)} (n : (l.map (·.1)).Nodup) (h : ∀ k, l.lookup k = g k) : l.Perm (lst g) := by
  refine (List.perm_ext_iff_of_nodup (nodup_of_keys n) (nodup_of_keys (lst_nodup g))).mpr fun p => ?_
  obtain ⟨k, f⟩ := p
  constructor
  · intro m
    have e : g k = some f := by
      rw [← h k]
      exact lookup_of n m
    exact mem_lst.mpr ⟨b k f e, e⟩
  · intro m
    have e : g k = some f := (mem_lst.mp m).2
    rw [← h k] at e
    exact lookup_mem e
theorem dk_perm {ps : List (Nat × F)} (h : ∀ p ∈ ps, p.1 < 9) : (dkN ps.reverse).Perm (lst (look ps)) := by
  refine perm_look (bd_look h) (dk_nodup _) fun k => ?_
  unfold dkN
  rw [fold_look, List.reverse_reverse]
  show (ps.lookup k).or none = ps.lookup k
  cases ps.lookup k <;> rfl
end
end K5

/-! Rules that the layer lacks: a class's own operators, sorting of pairs (int, text). -/
namespace K5
open PySem PySem.Spec PyProof.Rows L2

theorem cback {P : Value → Shared → Prop} {z : V} {v : Value} {s' : Shared} (r : RelV z v) (h : P v s') : PySem.W.CmpBack P v s' := by
  cases z with
  | non => cases (show v = Value.none from r); exact h
  | bl b => cases (show v = Value.bool b from r); exact h
  | int i => obtain ⟨t, e⟩ := (show ∃ t, v = Value.int i t from r); cases e; exact h
  | str x => obtain ⟨t, e⟩ := (show ∃ t, v = Value.str x t from r); cases e; exact h
  | byt b => obtain ⟨t, e⟩ := (show ∃ t, v = Value.bytes b t from r); cases e; exact h
  | flt b => obtain ⟨t, e⟩ := (show ∃ t, v = Value.float b t from r); cases e; exact h
  | ref a => cases (show v = Value.ref a from r); exact h
  | ty n => cases (show v = Value.type n from r); exact h

section
variable {X : Cx} {CX : CXT} {n : Nat} {C f : Addr} {sp : Sp} {E : XK}
/-- x op y by the class's own def of two instances -/
def rBin (C : Addr) (sp : Sp) (E : XK) : R2 := fun x y H Q => ∃ a b dx dy fs gs, x = .ref a ∧ y = .ref b ∧ H a = some (.ins C dx fs) ∧ H b = some (.ins C dy gs) ∧ sp [.ref a, .ref b] H Q E
theorem op_bin {op : Operator} (hc : PySem.W.selfFirst X.K C = true) (hs : PySem.W.findIn X.K (.ref C) (PySem.dunder op.info.2) = some (some (.ref f))) (hf : PySem.W.isFn X.K (.ref f) = true)
    (F : FnR X.prog X.w X.K X.mg X.base CX n f sp) (hr : Room n X.A) (hx : Passes CX X E) : OpR X (binaryOp op) (rBin C sp E) := by
  intro pins s σ H x y v u Q I rx ry h
  obtain ⟨a, b, dx, dy, fs, gs, rfl, rfl, ha, hb, q⟩ := h
  cases (show v = Value.ref a from rx)
  cases (show u = Value.ref b from ry)
  obtain ⟨mA, J, _⟩ := ins_get I.hok ha
  obtain ⟨mB, J', _⟩ := ins_get I.hok hb
  obtain ⟨od, J, _⟩ := J.look
  obtain ⟨od', J', _⟩ := J'.look
  obtain ⟨m, hF⟩ := I.fr
  refine PySem.W.binop_K hF I.ok.mod.kin J J'.type hc hs hf ?_
  refine wpAny_mono (wpAny_call (run_fnR (us := [.ref a, .ref b]) (vs := [.ref a, .ref b]) F hr hx I (.cons rfl (.cons rfl .nil)) q)) (fun w' s' z => ?_) fun _ _ x => x
  obtain ⟨z', H', I', rz, qz⟩ := z
  exact cback rz ⟨z', H', I', rz, qz⟩
/-- x in y by the class's own __contains__ -/
def rInOwn (C : Addr) (sp : Sp) (E : XK) (t : Bool → Bool) : R2 := fun x y H Q => ∃ b dy gs, y = .ref b ∧ H b = some (.ins C dy gs) ∧ sp [.ref b, x] H (fun z H' => ∃ k, z = .bl k ∧ Q (.bl (t k)) H') E
theorem op_inOwn (hs : PySem.W.findIn X.K (.ref C) "__contains__" = some (some (.ref f))) (hf : PySem.W.isFn X.K (.ref f) = true)
    (F : FnR X.prog X.w X.K X.mg X.base CX n f sp) (hr : Room n X.A) (hx : Passes CX X E) : OpR X (compareOp .In) (rInOwn C sp E fun k => k) := by
  intro pins s σ H x y v u Q I rx ry h
  obtain ⟨b, dy, gs, rfl, hb, q⟩ := h
  cases (show u = Value.ref b from ry)
  obtain ⟨mB, J, _⟩ := ins_get I.hok hb
  obtain ⟨od, J, _⟩ := J.look
  obtain ⟨m, hF⟩ := I.fr
  refine PySem.W.in_K hF I.ok.mod.kin J hs hf ?_
  refine wpAny_mono (wpAny_call (run_fnR (us := [.ref b, v]) (vs := [.ref b, x]) F hr hx I (.cons rfl (.cons rx .nil)) q)) (fun w' s' z => ?_) fun _ _ x => x
  obtain ⟨z', H', I', rz, k, ek, qz⟩ := z
  subst ek
  cases (show w' = Value.bool k from rz)
  exact wpAny_truthy_bool ⟨.bl k, H', I', rfl, qz⟩
theorem op_notInOwn (hs : PySem.W.findIn X.K (.ref C) "__contains__" = some (some (.ref f))) (hf : PySem.W.isFn X.K (.ref f) = true)
    (F : FnR X.prog X.w X.K X.mg X.base CX n f sp) (hr : Room n X.A) (hx : Passes CX X E) : OpR X (compareOp .NotIn) (rInOwn C sp E fun k => !k) := by
  intro pins s σ H x y v u Q I rx ry h
  obtain ⟨b, dy, gs, rfl, hb, q⟩ := h
  cases (show u = Value.ref b from ry)
  obtain ⟨mB, J, _⟩ := ins_get I.hok hb
  obtain ⟨od, J, _⟩ := J.look
  obtain ⟨m, hF⟩ := I.fr
  refine PySem.W.notIn_K hF I.ok.mod.kin J hs hf ?_
  refine wpAny_mono (wpAny_call (run_fnR (us := [.ref b, v]) (vs := [.ref b, x]) F hr hx I (.cons rfl (.cons rx .nil)) q)) (fun w' s' z => ?_) fun _ _ x => x
  obtain ⟨z', H', I', rz, k, ek, qz⟩ := z
  subst ek
  cases (show w' = Value.bool k from rz)
  exact wpAny_truthy_bool ⟨.bl (!k), H', I', rfl, qz⟩
/-- a callee that runs within a built-in -/
theorem run_in {pins : List (Addr × Obj)} {σ : L2.St} {H : Hp} {s : Shared} {A : Around} {Q : VK} {us : List Value} {ws : List V} (F : FnR X.prog X.w X.K X.mg X.base CX n f sp) (hr : Room n A) (e0 : Env0 X.prog X.w X.K X.mg X.base A X.stack s H) (hx : Passes CX X E)
    (I : Inv X pins σ H s) (r : Vals ws us) (h : sp ws H Q E) :
    codeAny (model X.prog X.w) A (.call (.ref f) ⟨us, []⟩) (fun r s' => match r with | .ok (.ret v) => EP X pins σ Q v s' | .ok _ => False | .error e => X.xe e s') s := by
  refine codeAny_mono (F A X.stack s H us ws Q E hr e0 r h) fun r s' hq => ?_
  cases r with
  | error e => exact hx pins σ H s e s' I hq
  | ok fl =>
    cases fl with
    | ret u => exact I.after hq
    | next => exact False.elim hq
    | brk => exact False.elim hq
    | cont => exact False.elim hq
/-- len(x) by the class's own __len__ -/
def rLenOwn (C : Addr) (sp : Sp) (E : XK) : List V → Hp → VK → Prop := fun xs H Q => ∃ a dx fs, xs = [V.ref a] ∧ H a = some (.ins C dx fs) ∧ sp [.ref a] H (fun z H' => ∃ k : Int, z = .int k ∧ (0 ≤ k ∧ k < 2 ^ 63) ∧ Q (.int k) H') E
theorem call_lenOwn (hs : PySem.W.findIn X.K (.ref C) "__len__" = some (some (.ref f))) (hf : PySem.W.isFn X.K (.ref f) = true)
    (F : FnR X.prog X.w X.K X.mg X.base CX n f sp) (hr : Room (n + 1) X.A) (hx : Passes CX X E) : CallR X (.builtin "len") (rLenOwn C sp E) := by
  intro pins s σ H xs us Q I r h
  obtain ⟨a, dx, fs, rfl, ha, q⟩ := h
  obtain ⟨u, rfl, ru⟩ := vals1 r
  cases (show u = Value.ref a from ru)
  obtain ⟨mA, J, _⟩ := ins_get I.hok ha
  obtain ⟨od, J, _⟩ := J.look
  obtain ⟨m, hF⟩ := I.fr
  refine PySem.W.len_K hF I.ok.mod.kin J hs hf ?_
  refine wpAny_mono (wpAny_call (run_in (us := [.ref a]) (ws := [.ref a]) F hr.in1 I.env0.in1 hx I (.cons rfl .nil) q)) (fun w' s' z => ?_) fun _ _ x => x
  obtain ⟨z', H', I', rz, k, ek, hk, qz⟩ := z
  subst ek
  obtain ⟨t, e⟩ := (show ∃ t, w' = Value.int k t from rz)
  cases e
  exact ⟨hk, .int k, H', I'.tok _, ⟨_, rfl⟩, qz⟩
/-- x == y by the class's own __eq__, both instances of it -/
theorem op_eqOwn (hs : PySem.W.findIn X.K (.ref C) "__eq__" = some (some (.ref f))) (hf : PySem.W.isFn X.K (.ref f) = true)
    (F : FnR X.prog X.w X.K X.mg X.base CX n f sp) (hr : Room n X.A) (hx : Passes CX X E) : OpR X (compareOp .Eq) (rBin C sp E) := by
  intro pins s σ H x y v u Q I rx ry h
  obtain ⟨a, b, dx, dy, fs, gs, rfl, rfl, ha, hb, q⟩ := h
  cases (show v = Value.ref a from rx)
  cases (show u = Value.ref b from ry)
  obtain ⟨mA, J, _⟩ := ins_get I.hok ha
  obtain ⟨mB, J', _⟩ := ins_get I.hok hb
  obtain ⟨od, J, _⟩ := J.look
  obtain ⟨od', J', _⟩ := J'.look
  obtain ⟨m, hF⟩ := I.fr
  show wpAny (model X.prog X.w) X.A (richCompare .Eq (.ref a) (.ref b)) (EP X pins σ Q) X.xe s
  refine PySem.W.cmp_K (op := .Eq) (tb := .ref C) hr.units0 hF I.ok.mod.kin J J'.type (by simp [PySem.W.notFirst]) hs hf ?_
  refine wpAny_mono (wpAny_call (run_fnR (us := [.ref a, .ref b]) (vs := [.ref a, .ref b]) F hr hx I (.cons rfl (.cons rfl .nil)) q)) (fun w' s' z => ?_) fun _ _ x => x
  obtain ⟨z', H', I', rz, qz⟩ := z
  exact cback rz ⟨z', H', I', rz, qz⟩
end
end K5

namespace K5
open PySem PySem.Spec PyProof.Rows L2 PySem.W
section
variable {M : Model} {A : Around} {E : Value → Shared → Prop} {s : Shared} {K : Frag} {x C : Addr} {ox : Obj} {od : Option Obj}
/-- a special def that is a built-in's, found at the class -/
theorem ifBound_B {args : List Value} {name : Str} {T id : String} {Q : Option Value → Shared → Prop} (X : K.In s.heap) (I : InstAt s.heap x ox C od) (hs : findIn K (.ref C) name = some (some (.builtin id))) (S : Slot T name id)
    (h : wpAny M A (call (.builtin id) (.ref x :: args)) (fun v => Q (some v)) E s) : wpAny M A (callSpecialIfBound? (.ref x) name args) Q E s := by
  simp only [callSpecialIfBound?, bindSpecialIfBound?]
  refine wpAny_holding (wpAny_bind (wpAny_bind (wpAny_bind (I.type.here ((looks_findIn X hs).here ?_)))))
  simp only [S.bind]
  refine wpAny_bind (wpAny_askSetting (wpAny_ite ?_))
  have fin : wpAny M A (call (.builtin id) ([.ref x] ++ args) >>= fun v => pure (some v)) Q E s := wpAny_bind (wpAny_mono h (fun v s' h' => wpAny_pure h') fun _ _ h' => h')
  split
  · exact wpAny_bind (wpAny_pure (wpAny_pure fin))
  · exact wpAny_tryCatch (wpAny_bind (wpAny_pure (wpAny_pure fin)))
theorem slot_ne : Slot "object" "__ne__" "object.__ne__" := PySem.F.cmp_object.ne
end
section
variable {prog : Program} {w : World} {A : Around} {E : Value → Shared → Prop} {s : Shared} {K : Frag} {x y C f : Addr} {ox oy : Obj} {od od' : Option Obj}
/-- x != y where the class has an own __eq__ and object's __ne__ -/
theorem ne_K {Q : Value → Shared → Prop} (hu : A.units + 1 < cLine) (X : K.In s.heap) (I : InstAt s.heap x ox C od) (J : InstAt s.heap y oy C od') (hn : findIn K (.ref C) "__ne__" = some (some (.builtin "object.__ne__")))
    (ho : mroIn K C (.type "object") = some true) (hs : findIn K (.ref C) "__eq__" = some (some (.ref f))) (hf : isFn K (.ref f) = true)
    (h : wpAny (model prog w) A.in1 (call (.ref f) [.ref x, .ref y]) (fun r s' => ∃ b, r = .bool b ∧ Q (.bool (!b)) s') E s) : wpAny (model prog w) A (richCompare .NotEq (.ref x) (.ref y)) Q E s := by
  have sub : Looks (model prog w) s.heap (isInstance (.ref x) (.type "object")) true := I.type.andThen (looks_mroIn X ho)
  have ne : wpAny (model prog w) A.in1 (Builtin.«object.__ne__» ⟨[.ref x, .ref y], []⟩) (fun fin s' => ∃ b, fin = .done (.ret (.bool b)) ∧ Q (.bool b) s') E s := by
    unfold Builtin.«object.__ne__»
    refine wpAny_bind (wpAny_pure ?_)
    refine wpAny_bind (wpAny_cRoomFor (show A.in1.units < cLine from hu) ?_)
    refine wpAny_bind (ifBound_K (name := "__eq__") X I hs hf (wpAny_mono h (fun r s' hr => ?_) fun _ _ e => e))
    obtain ⟨b, rfl, q⟩ := hr
    refine wpAny_bind (wpAny_truthy_bool ?_)
    exact wpAny_pure ⟨_, rfl, q⟩
  have one : wpAny (model prog w) A (tryCompare (.ref x) "__ne__" (.ref y)) (fun r s' => ∃ v, r = some v ∧ Q v s') E s := by
    unfold tryCompare
    refine wpAny_bind (ifBound_B (name := "__ne__") X I hn slot_ne (wpAny_call (codeAny_call_builtin slot_ne.plain PySem.F.cmpEntry_ne
      (@check_slot (model prog w) _ _ s "object.__ne__" "object" "__ne__" (.ref x) [.ref y] [] _ PySem.F.cmpKind_ne PySem.F.cmpSplit_ne sub (PySem.F.cmpArgs_ne _ _) ?_))))
    refine wpAny_mono ne (fun fin s' hb => ?_) fun _ _ e => e
    obtain ⟨b, rfl, q⟩ := hb
    exact wpAny_pure ⟨_, rfl, q⟩
  unfold richCompare
  simp only [oneThing_ref]
  refine wpAny_holding (wpAny_bind (wpAny_cRoomFor (Nat.lt_of_succ_lt hu) ?_))
  refine wpAny_bind (I.type.here (wpAny_bind (J.type.here ?_)))
  rw [if_neg (by simp)]
  refine wpAny_bind (wpAny_pure ?_)
  simp only [Bool.false_eq_true, if_false]
  refine wpAny_bind (wpAny_mono one (fun r s' z => ?_) fun _ _ e => e)
  obtain ⟨v, rfl, hq⟩ := z
  exact wpAny_pure hq
end
end K5

namespace K5
open PySem PySem.Spec PyProof.Rows L2 SrtO Srt
section
variable {prog : Program} {w : World} {A : Around} {E : Value → Shared → Prop} {s : Shared}
/-- a tuple (int, text) -/
def IsPS (h : Heap) (v : Value) (x : Int) (z : Str) : Prop := ∃ a o t u n, v = .ref a ∧ h.get? a = some o ∧ o.cls = .type "tuple" ∧ o.data = .seq #[.int x t, .str z u] n
theorem IsPS.keeps {h h' : Heap} {v : Value} {x : Int} {z : Str} (p : IsPS h v x z) (k : ∀ b o, h.get? b = some o → o.cls = .type "tuple" → h'.get? b = some o) : IsPS h' v x z := by
  obtain ⟨a, o, t, u, n, e, ho, hc, hd⟩ := p
  exact ⟨a, o, t, u, n, e, k _ _ ho hc, hc, hd⟩
abbrev ltF (k : Value → Int × Str) (v u : Value) : Bool := decide ((k v).1 < (k u).1)
theorem swo_first (k : Value → Int × Str) : Swo (ltF k) := by
  refine ⟨fun x y h => ?_, fun x y z h1 h2 => ?_⟩
  · have a := of_decide_eq_true h
    exact decide_eq_false (by omega)
  · have a := of_decide_eq_false h1
    have b := of_decide_eq_false h2
    exact decide_eq_false (by omega)
theorem ps_cmp {vs : List Value} {k : Value → Int × Str} (hp : ∀ v ∈ vs, IsPS s.heap v (k v).1 (k v).2) (hk : ∀ v ∈ vs, ∀ u ∈ vs, (k v).1 = (k u).1 → (k v).2 = (k u).2) : Cmp prog w A s (tuples' true) (fun p => p.1 ∈ vs) (lt2 (ltF k)) := by
  intro p q hm hm'
  have h1 := hp _ hm
  have h2 := hp _ hm'
  have h3 := hk _ hm _ hm'
  show wpAny (model prog w) A (keyLt' (tuples' true) p.1 q.1) (fun r s' => s' = s ∧ r = decide ((k p.1).1 < (k q.1).1)) (fun _ _ => False) s
  generalize (k p.1).1 = x at h1 h3 ⊢
  generalize (k p.1).2 = y at h1 h3 ⊢
  generalize (k q.1).1 = x' at h2 h3 ⊢
  generalize (k q.1).2 = y' at h2 h3 ⊢
  obtain ⟨a, o, t, u, n, e, ho, hc, hd⟩ := h1
  obtain ⟨a', o', t', u', n', e', ho', hc', hd'⟩ := h2
  rw [e, e']
  refine PySem.W.kat_lt ho hd ho' hd' ?_
  show PySem.W.KatLex prog w A true (decide (2 < 2)) _ [(.int x t, .int x' t'), (.str y u, .str y' u')] 0 s
  refine PySem.W.kat_cons (SeqAt.EqAt.int_int x t x' t' prog w _ _ ?_)
  refine PySem.W.kat_go (fun e1 => ?_) (fun e1 => ?_)
  · have ex : x = x' := by simpa using e1
    have ey : y = y' := h3 ex
    refine PySem.W.kat_yes (PySem.W.kat_cons (SeqAt.EqAt.str_str y u y' u' prog w _ _ ?_))
    refine PySem.W.kat_go (fun _ => ?_) (fun e2 => ?_)
    · exact PySem.W.kat_yes (PySem.W.kat_nil ⟨rfl, (decide_eq_false (by omega)).symm⟩)
    · rw [ey] at e2
      simp at e2
  · exact PySem.W.kat_no (oneLt_int ⟨rfl, rfl⟩)
theorem ps_firsts {h : Heap} : ∀ {vs : List Value}, (∀ v ∈ vs, ∃ x z, IsPS h v x z) → ∃ fs : List Value, PySem.W.KatTups h vs fs ∧ fs.length = vs.length ∧ ∀ f ∈ fs, ∃ x t, f = Value.int x t
  | [], _ => ⟨[], PySem.W.KatTups.nil, rfl, fun _ hm => by simp at hm⟩
  | v :: vs, hp => by
    obtain ⟨fs, h1, h2, h3⟩ := ps_firsts (vs := vs) fun v' hm => hp v' (List.mem_cons_of_mem _ hm)
    obtain ⟨x, z, a, o, t, u, n, e, ho, hc, hd⟩ := hp v (List.mem_cons_self ..)
    subst e
    refine ⟨.int x t :: fs, PySem.W.KatTups.cons ho hc hd rfl h1, by rw [List.length_cons, List.length_cons, h2], fun f hm => ?_⟩
    rcases List.mem_cons.mp hm with rfl | hm
    · exact ⟨x, t, rfl⟩
    · exact h3 f hm
theorem ps_sortable {a : Addr} {vs : List Value} {k : Value → Int × Str} (h0 : 0 < vs.length) (hp : ∀ v ∈ vs, IsPS s.heap v (k v).1 (k v).2) (hk : ∀ v ∈ vs, ∀ u ∈ vs, (k v).1 = (k u).1 → (k v).2 = (k u).2)
    (ha : ∀ o, s.heap.get? a = some o → o.cls ≠ .type "tuple") : SortableO prog w A s a vs (ltF k) := by
  intro h' keep
  have hp' : ∀ v ∈ vs, IsPS h' v (k v).1 (k v).2 := fun v hm => (hp v hm).keeps fun b o e c => keep b o (fun z => by subst z; exact ha o e c) e
  obtain ⟨fs, h1, h2, h3⟩ := ps_firsts fun v hm => ⟨_, _, hp' v hm⟩
  refine ⟨tuples' true, fun Q E hq => ?_, ps_cmp hp' hk⟩
  refine PySem.W.kat_kind (T := .type "int") h1 (by omega) (fun f hm => ?_) (by rfl) ?_
  · obtain ⟨x, t, rfl⟩ := h3 f hm
    exact PySem.W.Looks.now
  · have e : (Value.type "int" != Value.type "tuple") = true := by first | decide +kernel | rfl | decide
    rw [e]
    exact hq
theorem ps_sorted {l : Addr} {vs : List Value} {k : Value → Int × Str} {Q : Value → Shared → Prop} (hl : s.heap.IsList l vs.toArray) (hz : vs.length ≤ sizeLine) (hp : ∀ v ∈ vs, IsPS s.heap v (k v).1 (k v).2) (hk : ∀ v ∈ vs, ∀ u ∈ vs, (k v).1 = (k u).1 → (k v).2 = (k u).2)
    (h : ∀ (h' : Heap) (d : Addr) (out : List Value), Srtd (ltF k) out → out.Perm vs → (∀ b o, s.heap.get? b = some o → h'.get? b = some o) → s.heap.objs.size ≤ d → (∃ n, h'.get? d = some (seqObj "list" out.toArray n)) → Q (.ref d) { s with heap := h' }) :
    wpAny (model prog w) A (call (.builtin "sorted") [.ref l]) Q E s := by
  refine sorted_ord (swo_first k) hl hz (fun h2 h₁ a ha kk => ?_) fun out hs hb => ?_
  · refine ps_sortable (s := { s with heap := h₁ }) (by omega) (fun v hm => (hp v hm).keeps fun b o e _ => (kk b o e).2) hk fun o e => ?_
    have e' : some o = some (seqObj "list" vs.toArray 0) := e.symm.trans ha
    cases e'
    intro c
    exact absurd (Value.type.inj c) (by decide)
  · exact h _ _ out hs hb.perm (fun b o e => sortedAll_old e) (Nat.le_succ _) (sortedAll_at s.heap vs out.toArray)
end
/-- what stands in a tuple (int, text) of the abstract heap -/
def kOf (H : Hp) : V → Int × Str
  | .ref t => match H t with
    | some (.tup [.int i, .str z]) => (i, z)
    | _ => (0, Str.empty)
  | _ => (0, Str.empty)
theorem kOf_at {H : Hp} {t : Addr} {i : Int} {z : Str} (h : H t = some (.tup [.int i, .str z])) : kOf H (.ref t) = (i, z) := by
  unfold kOf
  simp only [h]
/-- sorted(xs), xs a list of tuples (int, text), equal ints with equal texts -/
def rSortedIS (K : PySem.W.Frag) : List V → Hp → VK → Prop := fun vs H Q => ∃ (a : Addr) (xs : List V), vs = [V.ref a] ∧ SqL K H a xs ∧ (∀ x ∈ xs, ∃ t i z, x = V.ref t ∧ H t = some (.tup [.int i, .str z])) ∧
  (∀ x ∈ xs, ∀ y ∈ xs, (kOf H x).1 = (kOf H y).1 → (kOf H x).2 = (kOf H y).2) ∧ ∀ ys p, ys.Pairwise (fun x y => (kOf H x).1 ≤ (kOf H y).1) → ys.Perm xs → H p = none → Q (.ref p) (upd H p (.lst ys))
theorem cr_sortedIS {X : Cx} : CallR X (.builtin "sorted") (rSortedIS X.K) := by
  intro pins s σ H vs us Q I r h
  obtain ⟨a, xs, rfl, hs, hx, hk, q⟩ := h
  obtain ⟨its, rv, hl, hz⟩ := I.list hs
  obtain ⟨u, rfl, ru⟩ := vals1 r
  obtain rfl : u = Value.ref a := ru
  obtain ⟨e1, e2⟩ := refs_back rv fun x m => by
    obtain ⟨t, _, _, e, _⟩ := hx x m
    exact ⟨t, e⟩
  have mem : ∀ v ∈ its, backV v ∈ xs := fun v hv => by
    rw [e1]
    exact List.mem_map.mpr ⟨_, hv, rfl⟩
  refine ps_sorted (k := fun u => kOf H (backV u)) hl.isList (by rw [← rv.length]; exact hz) (fun v hv => ?_) (fun v hv u hu e => hk _ (mem v hv) _ (mem u hu) e) fun h' d out h1 h2 kp hd hn => ?_
  · obtain ⟨t, rfl⟩ := e2 v hv
    have hm : V.ref t ∈ xs := mem _ hv
    obtain ⟨t', i, z, e, ht⟩ := hx _ hm
    cases e
    obtain ⟨_, its2, r2, o, ho, hc, n, hd⟩ := I.hok _ _ ht
    obtain ⟨u1, u2, rfl, ri, rj⟩ := vals2 r2
    obtain ⟨t1, rfl⟩ := ri
    obtain ⟨t2, rfl⟩ := rj
    have ek : kOf H (backV (Value.ref t)) = (i, z) := kOf_at ht
    rw [ek]
    exact ⟨t, o, t1, t2, n, rfl, ho, hc, hd⟩
  · have h3 : ∀ u ∈ out, ∃ a, u = Value.ref a := fun u hu => e2 u (h2.mem_iff.mp hu)
    obtain ⟨n, hn⟩ := hn
    have hb : (out.map backV).Perm xs := by
      rw [e1]
      exact h2.map backV
    have hs' : (out.map backV).Pairwise (fun x y => (kOf H x).1 ≤ (kOf H y).1) := List.pairwise_map.mpr (h1.imp fun z => by
      have z' := of_decide_eq_false z
      exact Int.not_lt.mp z')
    refine ⟨.ref d, upd H d (.lst (out.map backV)), I.laid (t' := s.toks) kp hd ⟨?_, out, n, vals_back h3, hn⟩, rfl, q _ d hs' hb (I.hok.fresh hd)⟩
    rw [hb.length_eq]
    exact hz
end K5

namespace K5
open PySem PySem.Spec PyProof.Rows L2
/-- a list comprehension over anything of n turns -/
theorem lc_any {J : It} {n : Nat} {g : TG} {tt : TT} {te : TE} {vs : List Nat} {σ : L2.St} {H0 : Hp} {D : Addr} {Qd : Hp → Prop} (Pv : Nat → Hp → Prop) (h0 : Pv 0 H0) (hgo : ∀ i H, i < n → Pv i H → J.go i H) (hst : ∀ H, Pv n H → J.stop n H)
    (hs : ∀ i H x H', i < n → Pv i H → J.yld i H x H' → g x (wipe σ vs) H' fun σ2 H2 => wipe σ2 vs = wipe σ vs ∧ tt σ2 H2 fun b H3 =>
      if b = true then te σ2 H3 fun y H4 => ∃ acc, H4 D = some (.lst acc) ∧ acc.length < sizeLine ∧ Pv (i + 1) (upd H4 D (.lst (acc ++ [y]))) else Pv (i + 1) H3)
    (hd : ∀ H, Pv n H → Qd H) :
    ∃ W : Nat → Nat → Hp → Prop, (∃ m, W 0 m H0) ∧ ∀ i m H, W i m H →
      (J.stop i H ∧ Qd H) ∨ (J.go i H ∧ ∃ Nx : Hp → Prop, (∀ H', Nx H' → ∃ m', m' < m ∧ W (i + 1) m' H') ∧ ∀ x H', J.yld i H x H' → g x (wipe σ vs) H' fun σ2 H2 => wipe σ2 vs = wipe σ vs ∧ tt σ2 H2 fun b H3 =>
        if b = true then te σ2 H3 fun y H4 => ∃ acc, H4 D = some (.lst acc) ∧ acc.length < sizeLine ∧ Nx (upd H4 D (.lst (acc ++ [y]))) else Nx H3) := by
  refine ⟨fun i m H => m = n - i ∧ i ≤ n ∧ Pv i H, ⟨n, by simp, Nat.zero_le _, h0⟩, ?_⟩
  rintro i m H ⟨rfl, hi, p⟩
  by_cases hlt : i < n
  · exact .inr ⟨hgo i H hlt p, Pv (i + 1), fun H' p' => ⟨n - (i + 1), by omega, rfl, hlt, p'⟩, fun x H' y => hs i H x H' hlt p y⟩
  · have e : i = n := by omega
    subst e
    exact .inl ⟨hst H p, hd H p⟩
/-- a dict comprehension over anything of n turns -/
theorem dc_any {J : It} {n : Nat} {g : TG} {tt : TT} {tk tv : TE} {vs : List Nat} {σ : L2.St} {H0 : Hp} {D : Addr} {Qd : Hp → Prop} (Pv : Nat → Hp → Prop) (h0 : Pv 0 H0) (hgo : ∀ i H, i < n → Pv i H → J.go i H) (hst : ∀ H, Pv n H → J.stop n H)
    (hs : ∀ i H x H', i < n → Pv i H → J.yld i H x H' → g x (wipe σ vs) H' fun σ2 H2 => wipe σ2 vs = wipe σ vs ∧ tt σ2 H2 fun b H3 =>
      if b = true then tk σ2 H3 fun y H4 => tv σ2 H4 fun z H5 => ∃ kvs k, y = kV k ∧ H5 D = some (.dK kvs) ∧ kvs.length < sizeLine ∧ Pv (i + 1) (upd H5 D (.dK (putK kvs k z))) else Pv (i + 1) H3)
    (hd : ∀ H, Pv n H → Qd H) :
    ∃ W : Nat → Nat → Hp → Prop, (∃ m, W 0 m H0) ∧ ∀ i m H, W i m H →
      (J.stop i H ∧ Qd H) ∨ (J.go i H ∧ ∃ Nx : Hp → Prop, (∀ H', Nx H' → ∃ m', m' < m ∧ W (i + 1) m' H') ∧ ∀ x H', J.yld i H x H' → g x (wipe σ vs) H' fun σ2 H2 => wipe σ2 vs = wipe σ vs ∧ tt σ2 H2 fun b H3 =>
        if b = true then tk σ2 H3 fun y H4 => tv σ2 H4 fun z H5 => ∃ kvs k, y = kV k ∧ H5 D = some (.dK kvs) ∧ kvs.length < sizeLine ∧ Nx (upd H5 D (.dK (putK kvs k z))) else Nx H3) := by
  refine ⟨fun i m H => m = n - i ∧ i ≤ n ∧ Pv i H, ⟨n, by simp, Nat.zero_le _, h0⟩, ?_⟩
  rintro i m H ⟨rfl, hi, p⟩
  by_cases hlt : i < n
  · exact .inr ⟨hgo i H hlt p, Pv (i + 1), fun H' p' => ⟨n - (i + 1), by omega, rfl, hlt, p'⟩, fun x H' y => hs i H x H' hlt p y⟩
  · have e : i = n := by omega
    subst e
    exact .inl ⟨hst H p, hd H p⟩
/-! ### methods of a class packed with their promise, as operators -/
section
variable {X : Cx} {k j : Nat} {C : Addr} {m : Str} {sp : Sp}
theorem op_binM {op : Operator} (sf : PySem.W.selfFirst X.K C = true) (c : C8.Met X.prog X.w X.K X.mg X.base k C m sp []) (hm : PySem.dunder op.info.2 = m) (hr : Room j X.A) (hk : k ≤ j) : OpR X (binaryOp op) (rBin C (fun vs H Q E => sp (vs ++ []) H Q E) C8.E0) := by
  obtain ⟨f, fd, ps, ds, hc, me, F, b, d⟩ := c.ex
  exact op_bin sf (by rw [hm]; exact me.at_) me.fn (F.raw b d) (hr.mono hk) C8.pass0
theorem op_inM (c : C8.Met X.prog X.w X.K X.mg X.base k C "__contains__" sp []) (hr : Room j X.A) (hk : k ≤ j) : OpR X (compareOp .In) (rInOwn C (fun vs H Q E => sp (vs ++ []) H Q E) C8.E0 fun k => k) := by
  obtain ⟨f, fd, ps, ds, hc, me, F, b, d⟩ := c.ex
  exact op_inOwn me.at_ me.fn (F.raw b d) (hr.mono hk) C8.pass0
theorem op_notInM (c : C8.Met X.prog X.w X.K X.mg X.base k C "__contains__" sp []) (hr : Room j X.A) (hk : k ≤ j) : OpR X (compareOp .NotIn) (rInOwn C (fun vs H Q E => sp (vs ++ []) H Q E) C8.E0 fun k => !k) := by
  obtain ⟨f, fd, ps, ds, hc, me, F, b, d⟩ := c.ex
  exact op_notInOwn me.at_ me.fn (F.raw b d) (hr.mono hk) C8.pass0
theorem call_lenM (c : C8.Met X.prog X.w X.K X.mg X.base k C "__len__" sp []) (hr : Room j X.A) (hk : k + 1 ≤ j) : CallR X (.builtin "len") (rLenOwn C (fun vs H Q E => sp (vs ++ []) H Q E) C8.E0) := by
  obtain ⟨f, fd, ps, ds, hc, me, F, b, d⟩ := c.ex
  exact call_lenOwn me.at_ me.fn (F.raw b d) (hr.mono hk) C8.pass0
theorem op_eqM (c : C8.Met X.prog X.w X.K X.mg X.base k C "__eq__" sp []) (hr : Room j X.A) (hk : k ≤ j) : OpR X (compareOp .Eq) (rBin C (fun vs H Q E => sp (vs ++ []) H Q E) C8.E0) := by
  obtain ⟨f, fd, ps, ds, hc, me, F, b, d⟩ := c.ex
  exact op_eqOwn me.at_ me.fn (F.raw b d) (hr.mono hk) C8.pass0
/-- x != y by the class's own __eq__ -/
def rNeOwn (C : Addr) (sp : Sp) (E : XK) : R2 := fun x y H Q => ∃ a b dx dy fs gs, x = .ref a ∧ y = .ref b ∧ H a = some (.ins C dx fs) ∧ H b = some (.ins C dy gs) ∧ sp [.ref a, .ref b] H (fun z H' => ∃ k, z = .bl k ∧ Q (.bl (!k)) H') E
theorem op_neM (hn : PySem.W.findIn X.K (.ref C) "__ne__" = some (some (.builtin "object.__ne__"))) (ho : PySem.W.mroIn X.K C (.type "object") = some true)
    (c : C8.Met X.prog X.w X.K X.mg X.base k C "__eq__" sp []) (hr : Room j X.A) (hk : k + 1 ≤ j) : OpR X (compareOp .NotEq) (rNeOwn C (fun vs H Q E => sp (vs ++ []) H Q E) C8.E0) := by
  obtain ⟨f, fd, ps, ds, hc, me, F, b, d⟩ := c.ex
  intro pins s σ H x y v u Q I rx ry h
  obtain ⟨a, b', dx, dy, fs, gs, rfl, rfl, ha, hb, q⟩ := h
  cases (show v = Value.ref a from rx)
  cases (show u = Value.ref b' from ry)
  obtain ⟨mA, J, _⟩ := ins_get I.hok ha
  obtain ⟨mB, J', _⟩ := ins_get I.hok hb
  obtain ⟨od, J, _⟩ := J.look
  obtain ⟨od', J', _⟩ := J'.look
  show wpAny (model X.prog X.w) X.A (richCompare .NotEq (.ref a) (.ref b')) (EP X pins σ Q) X.xe s
  have hr' : Room (k + 1) X.A := hr.mono hk
  refine ne_K (hu_of hr') I.kIn J J' hn ho me.at_ me.fn ?_
  refine wpAny_mono (wpAny_call (run_in (us := [.ref a, .ref b']) (ws := [.ref a, .ref b']) (F.raw b d) hr'.in1 I.env0.in1 C8.pass0 I (.cons rfl (.cons rfl .nil)) q)) (fun w' s' z => ?_) fun _ _ x => x
  obtain ⟨z', H', I', rz, k', ek, qz⟩ := z
  subst ek
  cases (show w' = Value.bool k' from rz)
  exact ⟨k', rfl, .bl (!k'), H', I', rfl, qz⟩
end
end K5

/-! The text by places, the heap's words, the promises. -/
namespace K5
open PySem PySem.Spec PyProof.Rows L2
def top (i : Nat) : Stmt := PySem.Challenge.pw_equalunlike_k05_whole_laws_of_sets_with.main.body.getD i (.Pass ⟨0, 0, 0, 0⟩)
abbrev sInteger : Stmt := top 5
abbrev sRange : Stmt := top 6
abbrev sLetters : Stmt := top 7
abbrev sName : Stmt := top 8
abbrev sKey : Stmt := top 9
abbrev sElement : Stmt := top 10
abbrev sCheck : Stmt := top 14
abbrev sInit : Stmt := inClass (top 15) 0
abbrev sMembers : Stmt := inClass (top 15) 1
abbrev sContains : Stmt := inClass (top 15) 3
abbrev sOr : Stmt := inClass (top 15) 5
abbrev sAnd : Stmt := inClass (top 15) 6
abbrev sSub : Stmt := inClass (top 15) 7
abbrev sXor : Stmt := inClass (top 15) 8
abbrev sJoined : Stmt := inClass (top 15) 9
abbrev sKept : Stmt := inClass (top 15) 10
abbrev sEquals : Stmt := inClass (top 15) 13
abbrev sLen : Stmt := inClass (top 15) 14
abbrev sEq : Stmt := inClass (top 15) 15
abbrev sBag : Stmt := top 17
abbrev sTake : Stmt := top 18
abbrev sSet : Stmt := top 19
abbrev sEqs : Stmt := top 20
abbrev sKeys : Stmt := top 21
abbrev sTurned : Stmt := top 22
abbrev sLaw : Stmt := top 23

/-! ### the heap's words -/
abbrev G := Gm Str
def forms6 : List Str := ["px", "py", "qx", "qy", "rx", "ry"]
def Good (g : G) : Prop := ∀ k f, g k = some f → k < 9 ∧ f ∈ forms6
def Goods (ps : List (Nat × Str)) : Prop := ∀ p ∈ ps, p.1 < 9 ∧ p.2 ∈ forms6
def ent (p : Nat × Str) : Key × V := (Sum.inl (p.1 : Int), V.str p.2)
theorem Good.bd {g : G} (h : Good g) : Bd g := fun k f e => (h k f e).1
theorem Good.goods {g : G} (h : Good g) : Goods (lst g) := fun p hp => h p.1 p.2 (mem_lst.mp hp).2
theorem Goods.good {ps : List (Nat × Str)} (h : Goods ps) : Good (look ps) := fun k f e => h (k, f) (lookup_mem e)
/-- a set with forms stands at x -/
def FS (C : Addr) (H : Hp) (x : Addr) (g : G) : Prop := Good g ∧ ∃ (dx d : Addr) (ps : List (Nat × Str)), H x = some (.ins C dx [("forms", .ref d)]) ∧ H d = some (.dK (ps.map ent)) ∧ ps.Perm (lst g)
def PairAt (H : Hp) (v : V) (p : Nat × Str) : Prop := ∃ t, v = .ref t ∧ H t = some (.tup [.int (p.1 : Int), .str p.2])
abbrev PairsAt (H : Hp) : List V → List (Nat × Str) → Prop := Paired (PairAt H)
/-- all but the lists is as it was -/
def Keep (H H' : Hp) : Prop := ∀ b o, H b = some o → (∀ xs, o ≠ .lst xs) → H' b = some o
theorem keep_of {H H' : Hp} (s : Same H H') : Keep H H' := fun b o e _ => s b o e
theorem Keep.trans {H H1 H2 : Hp} (a : Keep H H1) (b : Keep H1 H2) : Keep H H2 := fun c o h n => b c o (a c o h n) n
theorem keep_lst {H : Hp} {l : Addr} {xs ys : List V} (h : H l = some (.lst xs)) : Keep H (upd H l (.lst ys)) := fun b o e n => by
  by_cases q : b = l
  · subst q
    rw [h] at e
    cases e
    exact absurd rfl (n xs)
  · rw [upd_ne q]
    exact e
theorem same_upd {H : Hp} {p : Addr} {o : HO} (h : H p = none) : Same H (upd H p o) := fun b u e => by
  rw [upd_ne (ne_of_none e h)]
  exact e
theorem FS.keep {C : Addr} {H H' : Hp} {x : Addr} {g : G} (f : FS C H x g) (k : Keep H H') : FS C H' x g := by
  obtain ⟨hg, dx, d, ps, h1, h2, h3⟩ := f
  exact ⟨hg, dx, d, ps, k _ _ h1 (by intro xs q; cases q), k _ _ h2 (by intro xs q; cases q), h3⟩
theorem FS.same {C : Addr} {H H' : Hp} {x : Addr} {g : G} (f : FS C H x g) (s : Same H H') : FS C H' x g := f.keep (keep_of s)
theorem PairAt.keep {H H' : Hp} {v : V} {p : Nat × Str} (f : PairAt H v p) (k : Keep H H') : PairAt H' v p := by
  obtain ⟨t, e, h⟩ := f
  exact ⟨t, e, k _ _ h (by intro xs q; cases q)⟩
theorem PairsAt.keep {H H' : Hp} {vs : List V} {ps : List (Nat × Str)} (f : PairsAt H vs ps) (k : Keep H H') : PairsAt H' vs ps := Paired.mapP f fun _ _ z => z.keep k
theorem PairsAt.same {H H' : Hp} {vs : List V} {ps : List (Nat × Str)} (f : PairsAt H vs ps) (s : Same H H') : PairsAt H' vs ps := f.keep (keep_of s)
theorem PairsAt.len {H : Hp} {vs : List V} {ps : List (Nat × Str)} (f : PairsAt H vs ps) : vs.length = ps.length := Paired.length f
theorem PairsAt.get : ∀ {H : Hp} {vs : List V} {ps : List (Nat × Str)} {i : Nat} {v : V}, PairsAt H vs ps → vs[i]? = some v → ∃ p, ps[i]? = some p ∧ PairAt H v p
  | _, _, _, _, _, .nil, e => by simp at e
  | _, _, _, 0, _, .cons r _, e => by simp at e; subst e; exact ⟨_, rfl, r⟩
  | _, _, _, i + 1, _, .cons _ t, e => by
    obtain ⟨p, h1, h2⟩ := PairsAt.get (i := i) t (by simpa using e)
    exact ⟨p, by simpa using h1, h2⟩
theorem PairsAt.app : ∀ {H : Hp} {vs ws : List V} {ps qs : List (Nat × Str)}, PairsAt H vs ps → PairsAt H ws qs → PairsAt H (vs ++ ws) (ps ++ qs)
  | _, _, _, _, _, .nil, b => b
  | _, _, _, _, _, .cons r t, b => .cons r (PairsAt.app t b)
/-- what a set is made of: a list, or the empty tuple of the text -/
def Given (K : PySem.W.Frag) (H : Hp) (a : Addr) (xs : List V) : Prop :=
  H a = some (.lst xs) ∨ (xs = [] ∧ ∃ (o : Obj) (its : Array Value) (n : Nat), K.lookup a = some o ∧ o.cls = .type "tuple" ∧ o.data = .seq its n ∧ its.size = 0)
theorem Given.same {K : PySem.W.Frag} {H H' : Hp} {a : Addr} {xs : List V} (h : Given K H a xs) (s : Same H H') : Given K H' a xs := h.elim (fun h => .inl (s _ _ h)) .inr
theorem Given.tup {K : PySem.W.Frag} {H : Hp} {a : Addr} {o : Obj} {its : Array Value} {n : Nat} (h1 : K.lookup a = some o) (h2 : o.cls = .type "tuple") (h3 : o.data = .seq its n) (h4 : its.size = 0) : SqT K H a [] :=
  .inr ⟨o, its, n, h1, h2, h3, by rw [h4]; exact Nat.zero_le _, by
    have e : its = #[] := Array.eq_empty_of_size_eq_zero h4
    rw [e]
    exact .nil⟩

/-! ### the promises -/
def spInteger : Sp := fun vs H Q _ => ∃ i, vs = [.int i] ∧ Q (.bl true) H
def spRange : Sp := fun vs H Q _ => ∃ i a b, vs = [.int i, .int a, .int b] ∧ a ≤ i ∧ i ≤ b ∧ Q (.bl true) H
def spKey : Sp := fun vs H Q _ => ∃ i, vs = [.int i] ∧ 0 ≤ i ∧ i ≤ 999999 ∧ Q (.bl true) H
def spLetters : Sp := fun vs H Q _ => ∃ z, vs = [.str z] ∧ z ∈ forms6 ∧ ∀ H', Same H H' → Q (.bl true) H'
def spName : Sp := fun vs H Q _ => ∃ z, vs = [.str z] ∧ z ∈ forms6 ∧ ∀ H', Same H H' → Q (.bl true) H'
def spElement : Sp := fun vs H Q _ => ∃ v p, vs = [v] ∧ PairAt H v p ∧ p.1 < 9 ∧ p.2 ∈ forms6 ∧ ∀ H', Same H H' → Q (.bl true) H'
def spCheck (K : PySem.W.Frag) : Sp := fun vs H Q _ => ∃ a xs ps, vs = [.ref a] ∧ Given K H a xs ∧ PairsAt H xs ps ∧ Goods ps ∧ ∀ H', Same H H' → Q .non H'
def spInit (K : PySem.W.Frag) (C : Addr) : Sp := fun vs H Q _ => ∃ x a dx xs ps, vs = [.ref x, .ref a] ∧ H x = some (.ins C dx []) ∧ Given K H a xs ∧ PairsAt H xs ps ∧ Goods ps ∧ xs.length ≤ 1000 ∧
  ∀ H', (∀ b o, H b = some o → b ≠ x → H' b = some o) → FS C H' x (look ps) → Q .non H'
def spMem (C : Addr) : Sp := fun vs H Q _ => ∃ x g, vs = [.ref x] ∧ FS C H x g ∧ ∀ H' l xs, Same H H' → H' l = some (.lst xs) → PairsAt H' xs (lst g) → Q (.ref l) H'
def spIn (C : Addr) : Sp := fun vs H Q _ => ∃ (x : Addr) (k : Nat) (g : G), vs = [.ref x, .int (k : Int)] ∧ FS C H x g ∧ ∀ H', Same H H' → Q (.bl (g k).isSome) H'
def spBin (C : Addr) (op : G → G → G) : Sp := fun vs H Q _ => ∃ x y g h, vs = [.ref x, .ref y] ∧ FS C H x g ∧ FS C H y h ∧ ∀ H' r, Same H H' → FS C H' r (op g h) → Q (.ref r) H'
def spLen (C : Addr) : Sp := fun vs H Q _ => ∃ x g, vs = [.ref x] ∧ FS C H x g ∧ ∀ H', Same H H' → Q (.int (siz g : Int)) H'
/-- == of equal sets -/
def spEq (C : Addr) : Sp := fun vs H Q _ => ∃ x y g, vs = [.ref x, .ref y] ∧ FS C H x g ∧ FS C H y g ∧ ∀ H', Same H H' → Q (.bl true) H'
/-- the same keys -/
def spEquals (C : Addr) : Sp := fun vs H Q _ => ∃ x y g h, vs = [.ref x, .ref y] ∧ FS C H x g ∧ FS C H y h ∧ Same2 g h ∧ ∀ H', Same H H' → Q (.bl true) H'
def spJoined (C : Addr) : Sp := fun vs H Q _ => ∃ x p y z g h i, vs = [.ref x, .ref p] ∧ FS C H x g ∧ FS C H y h ∧ FS C H z i ∧ H p = some (.tup [.ref y, .ref z]) ∧ ∀ H' r, Same H H' → FS C H' r (orG (orG g h) i) → Q (.ref r) H'
end K5

/-! is_integer to check_members. -/
namespace K5
open PySem PySem.Spec PyProof.Rows L2
/-- what the top has left, for the defs ahead of the class -/
structure TxtA (K : PySem.W.Frag) (mg : Str → Option Value) : Prop where
  isi : mg "isinstance" = none
  int : mg "int" = none
  bool : mg "bool" = none
  str : mg "str" = none
  tuple : mg "tuple" = none
  list : mg "list" = none
  len : mg "len" = none
  all : mg "all" = none
  longest : ∃ t, mg "LONGEST_NAME" = some (.int 4 t)
  most : ∃ t, mg "MOST_KEY" = some (.int 999999 t)
  kept : ∃ (t : Addr) (o : Obj) (its : Array Value) (n : Nat), mg "KEPT_WORDS" = some (.ref t) ∧ K.lookup t = some o ∧ o.cls = .type "tuple" ∧ o.data = .seq its n ∧ its.size = 3 ∧ Vals [.str "keys", .str "look", .str "self"] its.toList
section
variable {P : Program} {w : World} {K : PySem.W.Frag} {mg : Str → Option Value} {base : Heap} {f : Addr} {fd : FuncData}
theorem scInteger : FnScope ["thing"] ["thing"] (C8.fnScope sInteger) := C8.fnScope_by (by decide +kernel)
theorem ok_integer (D : C8.Def K mg "is_integer" sInteger f fd) (b : Binds K fd ["thing"] []) (T : TxtA K mg) : C8.Cal P w K mg base 1 "is_integer" spInteger [] := by
  refine C8.cal0 D b .nil scInteger (fun vs H Q E h => ?_) (fun cdv A outer s H vs Q E hr h => ?_)
  · obtain ⟨i, rfl, _⟩ := h
    rfl
  · obtain ⟨i, rfl, k⟩ := h
    refine ⟨_, pss_one (ps_ret (pe_and (pe_callB call_isi (by rfl) T.isi (by decide +kernel) (pa_cons (pv 0) (pa_cons (pe_bltn (v := .ty "int") (by rfl) T.int (by decide +kernel) rfl) pa_nil)))
      (pe_one (pe_not (pe_callB call_isi (by rfl) T.isi (by decide +kernel) (pa_cons (pv 0) (pa_cons (pe_bltn (v := .ty "bool") (by rfl) T.bool (by decide +kernel) rfl) pa_nil))))))), ?_⟩
    refine ⟨_, rfl, _, _, _, _, true, rfl, .ty _, .base (.int _), kit_ty (by decide +kernel), true, rfl, iteT ?_⟩
    exact ⟨_, rfl, _, _, _, _, false, rfl, .ty _, .base (.int _), kit_ty (by decide +kernel), false, rfl, k⟩
theorem scRange : FnScope ["thing", "least", "most"] ["thing", "least", "most"] (C8.fnScope sRange) := C8.fnScope_by (by decide +kernel)
theorem ok_range (D : C8.Def K mg "in_range" sRange f fd) (b : Binds K fd ["thing", "least", "most"] []) (c : C8.Cal P w K mg base 1 "is_integer" spInteger []) : C8.Cal P w K mg base 2 "in_range" spRange [] := by
  refine C8.cal0 D b .nil scRange (fun vs H Q E h => ?_) (fun cdv A outer s H vs Q E hr h => ?_)
  · obtain ⟨i, a, b, rfl, _⟩ := h
    rfl
  · obtain ⟨i, a, b, rfl, h1, h2, k⟩ := h
    refine ⟨_, pss_one (ps_ret (pe_and (C8.pe_c c hr (by decide) (by rfl) (pa_cons (pv 0) pa_nil)) (pe_one (pe_chain op_le op_le (pv 1) (pv 0) (pv 2))))), ?_⟩
    refine ⟨_, rfl, i, rfl, true, rfl, iteT ?_⟩
    refine ⟨_, rfl, _, rfl, _, _, rfl, rfl, _, rfl, ?_⟩
    rw [if_pos (decide_eq_true h1)]
    refine ⟨_, rfl, _, _, rfl, rfl, ?_⟩
    show Q (V.bl (decide (i ≤ b))) H
    rw [decide_eq_true h2]
    exact k
theorem scKey : FnScope ["thing"] ["thing"] (C8.fnScope sKey) := C8.fnScope_by (by decide +kernel)
theorem ok_key (D : C8.Def K mg "is_key" sKey f fd) (b : Binds K fd ["thing"] []) (T : TxtA K mg) (c : C8.Cal P w K mg base 2 "in_range" spRange []) : C8.Cal P w K mg base 3 "is_key" spKey [] := by
  refine C8.cal0 D b .nil scKey (fun vs H Q E h => ?_) (fun cdv A outer s H vs Q E hr h => ?_)
  · obtain ⟨i, rfl, _⟩ := h
    rfl
  · obtain ⟨i, rfl, h1, h2, k⟩ := h
    obtain ⟨t, ht⟩ := T.most
    refine ⟨_, pss_one (ps_ret (C8.pe_c c hr (by decide) (by rfl) (pa_cons (pv 0) (pa_cons pe_int (pa_cons (pe_glob (v := .int 999999) (by rfl) ht ⟨_, rfl⟩) pa_nil))))), ?_⟩
    exact ⟨_, rfl, i, 0, 999999, rfl, h1, h2, k⟩
theorem forms_len {z : Str} (h : z ∈ forms6) : z.length = 2 := by
  have q : (forms6.all fun z => decide (z.length = 2)) = true := by decide +kernel
  exact of_decide_eq_true (List.all_eq_true.mp q z h)
theorem forms_sign {z : Str} (h : z ∈ forms6) {i c : Nat} (e : z.cps[i]? = some c) : 97 ≤ c ∧ c ≤ 122 := by
  have q : (forms6.all fun z => z.cps.toList.all fun c => decide (97 ≤ c) && decide (c ≤ 122)) = true := by decide +kernel
  have q2 := List.all_eq_true.mp (List.all_eq_true.mp q z h) c (by
    rw [← Array.getElem?_toList] at e
    exact List.mem_of_getElem? e)
  rw [Bool.and_eq_true, decide_eq_true_eq, decide_eq_true_eq] at q2
  exact q2
theorem forms_word {z : Str} (h : z ∈ forms6) : inV (.str z) [.str "keys", .str "look", .str "self"] = false := by
  have q : (forms6.all fun z => !inV (.str z) [.str "keys", .str "look", .str "self"]) = true := by decide +kernel
  have q2 := List.all_eq_true.mp q z h
  cases e : inV (.str z) [.str "keys", .str "look", .str "self"] with
  | false => rfl
  | true => rw [e] at q2; cases q2
theorem scLetters : FnScope ["text", "sign"] ["text"] (C8.fnScope sLetters) := C8.fnScope_by (by decide +kernel)
theorem ok_letters (D : C8.Def K mg "is_letters" sLetters f fd) (b : Binds K fd ["text"] []) (T : TxtA K mg) : C8.Cal P w K mg base 1 "is_letters" spLetters [] := by
  refine C8.cal0 D b .nil scLetters (fun vs H Q E h => ?_) (fun cdv A outer s H vs Q E hr h => ?_)
  · obtain ⟨z, rfl, _⟩ := h
    rfl
  · obtain ⟨z, rfl, hz, k⟩ := h
    refine ⟨_, pss_one (ps_ret (pe_callB (cr_all rfl) (by rfl) T.all (by decide +kernel) (pa_cons (pe_lc (own := [("sign", 1)]) (g := gName 1) (tt := tYes) rfl scLetters.nd (pi_str (pv 0))
      (blkOk_by (own := [("sign", 1)]) (N := ["text", "sign"]) (sc := C8.fnScope sLetters) (by decide +kernel)) (fun _ _ _ _ _ => pg_name (i := 1) scLetters.nd rfl (Or.inl rfl)) (fun _ _ _ _ _ => pts_nil)
      (fun _ _ _ _ _ => pe_chain op_le_str op_le_str pe_str (pv 1) pe_str)) pa_nil))), ?_⟩
    refine ⟨_, rfl, z, rfl, fun L hL => ?_⟩
    refine lc_any (n := z.cps.size) (fun i H' => Same H H' ∧ H' L = some (.lst (List.replicate i (V.bl true))) ∧ i ≤ z.cps.size) ⟨same_upd hL, upd_same, Nat.zero_le _⟩ (fun i H' hi _ => hi) (fun H' _ => Nat.le_refl _) (fun i H' x H2 hi p y => ?_) fun H' p => ?_
    · obtain ⟨p1, p2, p3⟩ := p
      obtain ⟨rfl, c, hc, rfl⟩ := y
      obtain ⟨c1, c2⟩ := forms_sign hz hc
      refine ⟨rfl, ?_⟩
      refine ⟨_, rfl, _, _, rfl, rfl, true, ?_, iteT ?_⟩
      · show V.bl (!decide (([c] : List Nat) < [97])) = V.bl true
        have e : ¬ ([c] : List Nat) < [97] := by
          intro q
          have := List.cons_lt_cons_iff.mp q
          rcases this with q | ⟨_, q⟩
          · omega
          · exact absurd q (List.not_lt_nil _)
        rw [decide_eq_false e]
        rfl
      · refine ⟨_, _, rfl, rfl, ?_⟩
        refine ⟨_, p2, ?_, ?_, ?_, ?_⟩
        · rw [List.length_replicate]
          have := forms_len hz
          have e2 : z.cps.size = 2 := this
          exact small1000 (by omega)
        · exact fun a o e => by
            have q := p1 a o e
            rw [upd_ne (ne_of_none e hL)]
            exact q
        · rw [upd_same]
          have e : ¬ ([122] : List Nat) < [c] := by
            intro q
            have := List.cons_lt_cons_iff.mp q
            rcases this with q | ⟨_, q⟩
            · omega
            · exact absurd q (List.not_lt_nil _)
          show some (HO.lst (List.replicate i (V.bl true) ++ [V.bl (!decide (([122] : List Nat) < [c]))])) = some (HO.lst (List.replicate (i + 1) (V.bl true)))
          rw [decide_eq_false e, List.replicate_succ']
          rfl
        · omega
    · obtain ⟨p1, p2, p3⟩ := p
      refine ⟨L, List.replicate z.cps.size true, rfl, SqL.of (by rw [List.map_replicate]; exact p2), ?_⟩
      have e : (List.replicate z.cps.size true).all id = true := by simp
      rw [e]
      exact k H' p1
theorem scName : FnScope ["thing"] ["thing"] (C8.fnScope sName) := C8.fnScope_by (by decide +kernel)
theorem ok_name (D : C8.Def K mg "is_name" sName f fd) (b : Binds K fd ["thing"] []) (T : TxtA K mg) (c : C8.Cal P w K mg base 1 "is_letters" spLetters []) : C8.Cal P w K mg base 2 "is_name" spName [] := by
  refine C8.cal0 D b .nil scName (fun vs H Q E h => ?_) (fun cdv A outer s H vs Q E hr h => ?_)
  · obtain ⟨z, rfl, _⟩ := h
    rfl
  · obtain ⟨z, rfl, hz, k⟩ := h
    obtain ⟨t4, ht4⟩ := T.longest
    obtain ⟨tw, ow, its, n, hmw, hlw, hcw, hdw, hsw, hvw⟩ := T.kept
    refine ⟨_, pss_cons (ps_if (PW.pt (pw_or (pt_not (pt_val (pe_callB call_isi (by rfl) T.isi (by decide +kernel) (pa_cons (pv 0) (pa_cons (pe_bltn (v := .ty "str") (by rfl) T.str (by decide +kernel) rfl) pa_nil)))))
        (pw_or1 (pt_not (pt_chain op_le op_le pe_int (pe_callB call_len_str (by rfl) T.len (by decide +kernel) (pa_cons (pv 0) pa_nil)) (pe_glob (v := .int 4) (by rfl) ht4 ⟨_, rfl⟩)))))) (pss_one (ps_ret pe_bl)) pss_nil)
      (pss_one (ps_ret (pe_and (C8.pe_c c hr (by decide) (by rfl) (pa_cons (pv 0) pa_nil)) (pe_one (pe_cmpR op_notIn_seq (pv 0) (pe_glob (v := .ref tw) (by rfl) hmw rfl) (by rfl)))))), ?_⟩
    refine ⟨_, rfl, _, _, _, _, true, rfl, .ty _, .base (.str _), kit_ty (by decide +kernel), true, rfl, ?_⟩
    refine iteF ?_
    have hl := forms_len hz
    refine ⟨_, rfl, z, rfl, by rw [hl]; decide, _, _, rfl, rfl, true, ?_, iteT ?_⟩
    · show V.bl (decide ((1 : Int) ≤ ((z.length : Nat) : Int))) = V.bl true
      rw [hl]
      rfl
    refine ⟨_, _, rfl, rfl, true, ?_, ?_⟩
    · show V.bl (decide (((z.length : Nat) : Int) ≤ 4)) = V.bl true
      rw [hl]
      rfl
    refine iteF ?_
    refine ⟨_, rfl, z, rfl, hz, fun H1 s1 => ⟨true, rfl, iteT ?_⟩⟩
    refine ⟨_, rfl, tw, _, rfl, .inr (.inr ⟨ow, its, n, hlw, hcw, hdw, by rw [hsw]; decide, hvw⟩), rfl, by decide, ?_⟩
    show Q (V.bl (!inV (.str z) [.str "keys", .str "look", .str "self"])) H1
    rw [forms_word hz]
    exact k H1 s1
theorem scElement : FnScope ["thing"] ["thing"] (C8.fnScope sElement) := C8.fnScope_by (by decide +kernel)
theorem ok_element (D : C8.Def K mg "is_element" sElement f fd) (b : Binds K fd ["thing"] []) (T : TxtA K mg) (ck : C8.Cal P w K mg base 3 "is_key" spKey []) (cn : C8.Cal P w K mg base 2 "is_name" spName []) : C8.Cal P w K mg base 4 "is_element" spElement [] := by
  refine C8.cal0 D b .nil scElement (fun vs H Q E h => ?_) (fun cdv A outer s H vs Q E hr h => ?_)
  · obtain ⟨z, p, rfl, _⟩ := h
    rfl
  · obtain ⟨v, p, rfl, ⟨t, rfl, ht⟩, hk, hz, k⟩ := h
    refine ⟨_, pss_one (ps_ret (pe_and (pe_callB call_isi (by rfl) T.isi (by decide +kernel) (pa_cons (pv 0) (pa_cons (pe_bltn (v := .ty "tuple") (by rfl) T.tuple (by decide +kernel) rfl) pa_nil)))
      (pe_and (pe_cmpR op_eq (pe_callB call_len_seq (by rfl) T.len (by decide +kernel) (pa_cons (pv 0) pa_nil)) pe_int (nomark _))
      (pe_and (C8.pe_c ck hr (by decide) (by rfl) (pa_cons (pe_ix ix_tup (pv 0) pe_int (fun _ _ => rfl)) pa_nil))
      (pe_one (C8.pe_c cn hr (by decide) (by rfl) (pa_cons (pe_ix ix_tup (pv 0) pe_int (fun _ _ => rfl)) pa_nil))))))), ?_⟩
    refine ⟨_, rfl, _, _, _, _, true, rfl, .ty _, .base (.tup ht), kit_ty (by decide +kernel), true, rfl, iteT ?_⟩
    refine ⟨_, rfl, t, _, rfl, .inr (SqT.of ht), rfl, true, rfl, iteT ?_⟩
    refine ⟨_, rfl, t, _, _, _, rfl, rfl, SqT.of ht, atI_nat (j := 0) rfl, (p.1 : Int), rfl, by omega, by omega, true, rfl, iteT ?_⟩
    exact ⟨_, rfl, t, _, _, _, rfl, rfl, SqT.of ht, atI_nat (j := 1) rfl, p.2, rfl, hz, fun H1 s1 => k H1 s1⟩
theorem scCheck : FnScope ["items", "item"] ["items"] (C8.fnScope sCheck) := C8.fnScope_by (by decide +kernel)
theorem kit_any1 : PySem.W.kitAny K (.type "list") [.type "list", .type "tuple"] = some true := kitAny_cons (b := true) (kit_ty (by decide +kernel)) (fun q => nomatch q) (fun _ => rfl)
theorem kit_any2 : PySem.W.kitAny K (.type "tuple") [.type "list", .type "tuple"] = some true := kitAny_cons (b := false) (kit_ty (by decide +kernel)) (fun _ => kitAny_cons (b := true) (kit_ty (by decide +kernel)) (fun q => nomatch q) (fun _ => rfl)) (fun q => nomatch q)
theorem ok_check (D : C8.Def K mg "check_members" sCheck f fd) (b : Binds K fd ["items"] []) (T : TxtA K mg) (c : C8.Cal P w K mg base 4 "is_element" spElement []) : C8.Cal P w K mg base 5 "check_members" (spCheck K) [] := by
  refine C8.cal0 D b .nil scCheck (fun vs H Q E h => ?_) (fun cdv A outer s H vs Q E hr h => ?_)
  · obtain ⟨a, xs, ps, rfl, _⟩ := h
    rfl
  · obtain ⟨a, xs, ps, rfl, hg, hp, hq, k⟩ := h
    rcases hg with ha | ⟨rfl, o, its, n, h1, h2, h3, h4⟩
    · refine ⟨_, pss_cons (ps_if (pt_not (pt_val (pe_callB call_isiT (by rfl) T.isi (by decide +kernel) (pa_cons (pv 0) (pa_cons (pe_tup (pa_cons (pe_bltn (v := .ty "list") (by rfl) T.list (by decide +kernel) rfl) (pa_cons (pe_bltn (v := .ty "tuple") (by rfl) T.tuple (by decide +kernel) rfl) pa_nil))) pa_nil))))) (pss_one ps_never) pss_nil)
        (pss_one (ps_for PassesOwn.never rfl (pi_list (pv 0)) (pg_name (i := 1) scCheck.nd rfl (Or.inl rfl)) (pss_one (ps_if (pt_not (pt_val (C8.pe_c c hr (by decide) (by rfl) (pa_cons (pv 1) pa_nil)))) (pss_one ps_never) pss_nil)))), ?_⟩
      refine ⟨_, rfl, by show 2 ≤ sizeLine; decide, fun q hq0 => ?_⟩
      have s1 : Same H (upd H q (.tup [.ty "list", .ty "tuple"])) := same_upd hq0
      refine ⟨_, q, _, _, _, true, rfl, upd_same, .cons (.ty _) (.cons (.ty _) .nil), .base (.lst (s1 _ _ ha)), kit_any1, true, rfl, iteF ?_⟩
      refine ⟨_, rfl, a, rfl, ⟨_, SqL.of (s1 _ _ ha)⟩, for_list (K := K) (a := a) (xs := xs) (fun i σ H2 => ∃ v : Option V, σ = [some (.ref a), v] ∧ Same H H2) ⟨none, rfl, s1⟩ (fun i σ H2 _ ⟨_, _, s2⟩ => SqL.of (s2 _ _ ha)) ?_ ?_⟩
      · rintro i y σ H2 hi ⟨v, rfl, s2⟩
        obtain ⟨p, hp1, hp2⟩ := hp.get hi
        obtain ⟨k1, k2⟩ := hq p (List.mem_of_getElem? hp1)
        refine ⟨_, rfl, y, p, rfl, hp2.keep (keep_of s2), k1, k2, fun H3 s3 => ⟨true, rfl, iteF ?_⟩⟩
        exact ⟨_, rfl, s2.trans s3⟩
      · rintro σ H2 ⟨v, rfl, s2⟩
        exact k H2 s2
    · refine ⟨_, pss_cons (ps_if (pt_not (pt_val (pe_callB call_isiT (by rfl) T.isi (by decide +kernel) (pa_cons (pv 0) (pa_cons (pe_tup (pa_cons (pe_bltn (v := .ty "list") (by rfl) T.list (by decide +kernel) rfl) (pa_cons (pe_bltn (v := .ty "tuple") (by rfl) T.tuple (by decide +kernel) rfl) pa_nil))) pa_nil))))) (pss_one ps_never) pss_nil)
        (pss_one (ps_for PassesOwn.never rfl (pi_tup (pv 0)) (pg_name (i := 1) scCheck.nd rfl (Or.inl rfl)) pss_never)), ?_⟩
      refine ⟨_, rfl, by show 2 ≤ sizeLine; decide, fun q hq0 => ?_⟩
      have s1 : Same H (upd H q (.tup [.ty "list", .ty "tuple"])) := same_upd hq0
      refine ⟨_, q, _, _, _, true, rfl, upd_same, .cons (.ty _) (.cons (.ty _) .nil), .kTuple h1 h2, kit_any2, true, rfl, iteF ?_⟩
      refine ⟨_, rfl, a, rfl, ⟨_, Given.tup h1 h2 h3 h4⟩, for_tup (K := K) (a := a) (xs := []) (fun i σ H2 => Same H H2) s1 (fun i σ H2 _ _ => Given.tup h1 h2 h3 h4) ?_ ?_⟩
      · intro i y σ H2 hi
        simp at hi
      · intro σ H2 s2
        exact k H2 s2
end
end K5

/-! FormSet: __init__, members, __contains__, __len__. -/
namespace K5
open PySem PySem.Spec PyProof.Rows L2
/-- what the top has left, for the class -/
structure TxtB (K : PySem.W.Frag) (mg : Str → Option Value) (C : Addr) : Prop where
  A : TxtA K mg
  cl : Cls K C
  nF : NoAttr K C "forms"
  mgC : mg "FormSet" = some (.ref C)
  ic : C8.InsC K C
  sf : PySem.W.selfFirst K C = true
  ne : PySem.W.findIn K (.ref C) "__ne__" = some (some (.builtin "object.__ne__"))
  rev : mg "reversed" = none
  srt : mg "sorted" = none
/-! the dict of a set -/
theorem putK_ent (acc : List (Nat × Str)) (k : Nat) (z : Str) : putK (acc.map ent) (Sum.inl (k : Int)) (.str z) = (putN acc k z).map ent := by
  have e1 : ∀ l : List (Nat × Str), (l.map ent).any (fun kv => decide (kv.1 = (Sum.inl (k : Int) : Key))) = l.any fun q => decide (q.1 = k) := by
    intro l
    rw [List.any_map]
    congr 1
    funext q
    show decide ((Sum.inl (q.1 : Int) : Key) = Sum.inl (k : Int)) = decide (q.1 = k)
    by_cases e : q.1 = k
    · rw [e]
      simp
    · rw [decide_eq_false e]
      exact decide_eq_false fun z => e (Int.ofNat.inj (Sum.inl.inj z))
  unfold putK putN
  rw [e1]
  by_cases a : (acc.any fun q => decide (q.1 = k)) = true
  · rw [if_pos a, if_pos a, List.map_map, List.map_map]
    refine List.map_congr_left fun q _ => ?_
    show (if (ent q).1 = Sum.inl (k : Int) then ((ent q).1, V.str z) else ent q) = ent (if q.1 = k then (q.1, z) else q)
    by_cases e : q.1 = k
    · rw [if_pos e, if_pos (by rw [← e]; rfl)]
      rfl
    · rw [if_neg e, if_neg (show ¬ (ent q).1 = Sum.inl (k : Int) from fun z => e (Int.ofNat.inj (Sum.inl.inj z)))]
  · rw [if_neg a, if_neg a, List.map_append]
    rfl
section
variable {P : Program} {w : World} {K : PySem.W.Frag} {mg : Str → Option Value} {base : Heap} {f C : Addr} {fd : FuncData}
theorem scInit : FnScope ["self", "given", "key", "form"] ["self", "given"] (C8.fnScope sInit) := C8.fnScope_by (by decide +kernel)
theorem lookF (d : Addr) : ([(("forms" : Str), V.ref d)] : List (Str × V)).lookup ("forms" : Str) = some (.ref d) := by
  rw [List.lookup_cons, beq_self_eq_true]
theorem noF (d : Addr) {m : Str} (h : (m == ("forms" : Str)) = false) : ([(("forms" : Str), V.ref d)] : List (Str × V)).lookup m = none := by
  rw [List.lookup_cons, h]
  rfl
theorem ok_init {dvs : List V} {ds : List Value} (M : Mk K C f) (F : C8.Fun K "__init__" "FormSet.__init__" sInit f fd) (b : Binds K fd ["self", "given"] ds) (d : Vals dvs ds) (T : TxtB K mg C) (c : C8.Cal P w K mg base 5 "check_members" (spCheck K) []) :
    C8.Mak P w K mg base 6 "FormSet" C (spInit K C) dvs := by
  refine C8.mak0 M T.mgC F b d scInit (fun vs H Q E h => ?_) (fun cdv A outer s H vs Q E hr h => ?_)
  · obtain ⟨x, a, dx, xs, ps, rfl, _⟩ := h
    rfl
  · obtain ⟨x, a, dx, xs, ps, rfl, hx, hg, hp, hq, hlen, k⟩ := h
    refine ⟨_, pss_cons (ps_expr (C8.pe_c c hr (by decide) (by rfl) (pa_cons (pv 1) pa_nil)))
      (pss_one (ps_fld (pv 0) (pe_dc (own := [("key", 2), ("form", 3)]) (g := gTup K 2 (gCons (gName 2) (gCons (gName 3) gNil))) (tt := tYes) (tk := tVar 2) (tv := tVar 3) rfl scInit.nd (pi_reversed (by rfl) T.rev (pa_cons (pe_callTy call_list_of (by rfl) T.A.list (by decide +kernel) (pa_cons (pv 1) pa_nil)) pa_nil))
        (blkOk_by (own := [("key", 2), ("form", 3)]) (N := ["self", "given", "key", "form"]) (sc := C8.fnScope sInit) (by decide +kernel))
        (fun _ _ _ _ _ => pg_tup rfl (pgs_cons (pg_name (i := 2) scInit.nd rfl (Or.inl rfl)) (pgs_cons (pg_name (i := 3) scInit.nd rfl (Or.inl rfl)) pgs_nil)))
        (fun _ _ _ _ _ => pts_nil) (fun _ _ _ _ _ => pv 2) (fun _ _ _ _ _ => pv 3)) rfl)), ?_⟩
    -- check_members(given)
    refine ⟨_, rfl, a, xs, ps, rfl, hg, hp, hq, fun H1 s1 => ?_⟩
    have seq1 : SqL K H1 a xs ∨ SqT K H1 a xs := by
      rcases hg with h1 | ⟨rfl, o, its, n, h1, h2, h3, h4⟩
      · exact .inl (SqL.of (s1 _ _ h1))
      · exact .inr (Given.tup h1 h2 h3 h4)
    -- list(given)
    refine ⟨_, rfl, a, xs, rfl, seq1, fun l hl => ?_⟩
    have s2 : Same H (upd H1 l (.lst xs)) := s1.trans (same_upd hl)
    refine ⟨l, xs, rfl, SqL.of upd_same, fun D hD => ?_⟩
    have nlD : l ≠ D := ne_of_none upd_same hD
    have s3 : Same (upd H1 l (.lst xs)) (upd (upd H1 l (.lst xs)) D (.dK [])) := same_upd hD
    have hlp := hp.len
    refine dc_any (n := xs.length) (fun i H' => Same H H' ∧ H' l = some (.lst xs) ∧ H' D = some (.dK ((dkN (ps.reverse.take i)).map ent)) ∧ ∀ b o, (upd H1 l (.lst xs)) b = some o → H' b = some o) ⟨s2.trans s3, s3 _ _ upd_same, upd_same, s3⟩
      (fun i H' hi p => ?_) (fun H' _ => Nat.le_refl _) (fun i H' v H2 hi p y => ?_) fun H' p => ?_
    · refine ⟨hi, xs, xs[xs.length - 1 - i], SqL.of p.2.1, ?_⟩
      rw [List.getElem?_eq_getElem]
    · obtain ⟨p1, p2, p3, p4⟩ := p
      obtain ⟨rfl, y⟩ := y
      have hv := y xs (SqL.of p2)
      obtain ⟨q, hq1, t, rfl, ht⟩ := hp.get hv
      have hrev : ps.reverse[i]? = some q := by
        rw [List.getElem?_reverse (by omega), ← hlp]
        exact hq1
      refine ⟨t, _, rfl, SqT.of (p1 _ _ ht), rfl, _, _, rfl, _, _, rfl, rfl, rfl, ?_⟩
      refine ⟨_, rfl, _, rfl, _, Sum.inl (q.1 : Int), rfl, p3, ?_, ?_⟩
      · rw [List.length_map]
        have e1 := fold_len (ps.reverse.take i) []
        have e2 : (ps.reverse.take i).length ≤ i := by rw [List.length_take]; omega
        have e3 : (dkN (ps.reverse.take i)).length ≤ 0 + (ps.reverse.take i).length := e1
        exact small1000 (by omega)
      · refine ⟨fun b o e => ?_, ?_, ?_, fun b o e => ?_⟩
        · rw [upd_ne (ne_of_none (s2 _ _ e) hD)]
          exact p1 b o e
        · rw [upd_ne nlD]
          exact p2
        · rw [upd_same, putK_ent, ← dk_snoc]
          have e : ps.reverse.take (i + 1) = ps.reverse.take i ++ [q] := by
            rw [List.take_add_one, hrev]
            rfl
          rw [e]
        · rw [upd_ne (ne_of_none e hD)]
          exact p4 b o e
    · obtain ⟨p1, p2, p3, p4⟩ := p
      have hxH : H' x = some (.ins C dx []) := p1 _ _ hx
      refine ⟨_, rfl, x, C, dx, [], rfl, hxH, T.cl, T.nF, by decide, ?_⟩
      have nxD : D ≠ x := ne_of p3 hxH (by intro z; cases z)
      refine k _ (fun b o e nb => ?_) ⟨hq.good, dx, D, dkN ps.reverse, upd_same, ?_, dk_perm fun p hp => (hq p hp).1⟩
      · rw [upd_ne nb]
        exact p1 b o e
      · rw [upd_ne nxD, p3]
        have e : ps.reverse.take xs.length = ps.reverse := List.take_of_length_le (by rw [List.length_reverse]; omega)
        rw [e]
/-! members -/
def pOf (H : Hp) (v : V) : Nat × Str := ((kOf H v).1.toNat, (kOf H v).2)
theorem pOf_at {H : Hp} {v : V} {p : Nat × Str} (h : PairAt H v p) : pOf H v = p ∧ kOf H v = ((p.1 : Int), p.2) := by
  obtain ⟨t, rfl, ht⟩ := h
  have e := kOf_at ht
  refine ⟨?_, e⟩
  unfold pOf
  rw [e]
  rfl
theorem pairs_map : ∀ {H : Hp} {vs : List V} {ps : List (Nat × Str)}, PairsAt H vs ps → ps = vs.map (pOf H) ∧ ∀ v ∈ vs, PairAt H v (pOf H v)
  | _, _, _, .nil => ⟨rfl, fun v hv => by cases hv⟩
  | H, v :: vs, p :: ps, .cons r t => by
    obtain ⟨h1, h2⟩ := pairs_map t
    obtain ⟨e, _⟩ := pOf_at r
    refine ⟨by rw [List.map_cons, e, ← h1], fun u hu => ?_⟩
    rcases List.mem_cons.mp hu with rfl | hu
    · rw [e]
      exact r
    · exact h2 u hu
theorem pairs_mem {H : Hp} {vs : List V} {ps : List (Nat × Str)} (h : PairsAt H vs ps) {v : V} (hv : v ∈ vs) : pOf H v ∈ ps := by
  obtain ⟨e, _⟩ := pairs_map h
  rw [e]
  exact List.mem_map_of_mem hv
theorem map_pairs {H : Hp} : ∀ {vs : List V}, (∀ v ∈ vs, PairAt H v (pOf H v)) → PairsAt H vs (vs.map (pOf H))
  | [], _ => .nil
  | v :: vs, h => .cons (h v List.mem_cons_self) (map_pairs fun u hu => h u (List.mem_cons_of_mem _ hu))
theorem sorted_pairs {g : G} {H : Hp} {xs ys : List V} {ps : List (Nat × Str)} (hp : PairsAt H xs ps) (hl : ps.Perm (lst g)) (hs : ys.Pairwise (fun x y => (kOf H x).1 ≤ (kOf H y).1)) (hy : ys.Perm xs) : PairsAt H ys (lst g) := by
  obtain ⟨e, h⟩ := pairs_map hp
  have h2 : ∀ v ∈ ys, PairAt H v (pOf H v) := fun v hv => h v (hy.mem_iff.mp hv)
  have q := map_pairs h2
  have hq : (ys.map (pOf H)).Perm (lst g) := (hy.map (pOf H)).trans (by rw [← e]; exact hl)
  have nd : ((ys.map (pOf H)).map (·.1)).Nodup := (hq.map (·.1)).nodup_iff.mpr (lst_nodup g)
  have srt : (ys.map (pOf H)).Pairwise (fun p q => p.1 < q.1) := by
    refine (List.pairwise_map.mp nd |>.and (List.pairwise_map.mpr (List.Pairwise.imp_of_mem (R := fun x y => (kOf H x).1 ≤ (kOf H y).1) (S := fun x y => (pOf H x).1 ≤ (pOf H y).1) (fun {a b} ha hb z => ?_) hs))).imp fun {p q} z => Nat.lt_of_le_of_ne z.2 z.1
    show (kOf H a).1.toNat ≤ (kOf H b).1.toNat
    omega
  have e2 : ys.map (pOf H) = lst g := perm_sorted srt (lst_sorted g) fun p => hq.mem_iff
  rw [e2] at q
  exact q
theorem scMembers : FnScope ["self", "key", "form"] ["self"] (C8.fnScope sMembers) := C8.fnScope_by (by decide +kernel)
theorem ok_members (me : Meth K C "members" f) (F : C8.Fun K "members" "FormSet.members" sMembers f fd) (b : Binds K fd ["self"] []) (T : TxtB K mg C) : C8.Met P w K mg base 1 C "members" (spMem C) [] := by
  refine C8.met0 T.cl me F b scMembers (fun vs H Q E h => ?_) (fun cdv A outer s H vs Q E hr h => ?_)
  · obtain ⟨x, g, rfl, _⟩ := h
    rfl
  · obtain ⟨x, g, rfl, ⟨hg, dx, d, ps, hx, hd, hps⟩, k⟩ := h
    refine ⟨_, pss_one (ps_ret (pe_callB cr_sortedIS (by rfl) T.srt (by decide +kernel) (pa_cons (pe_lock (pe_lc (own := [("key", 1), ("form", 2)]) (g := gTup K 2 (gCons (gName 1) (gCons (gName 2) gNil))) (tt := tYes) (te := tTup (tCons (tVar 1) (tCons (tVar 2) tNil))) rfl scMembers.nd
      (pi_items (pe_fld (pv 0) rfl)) (blkOk_by (own := [("key", 1), ("form", 2)]) (N := ["self", "key", "form"]) (sc := C8.fnScope sMembers) (by decide +kernel))
      (fun _ _ _ _ _ => pg_tup rfl (pgs_cons (pg_name (i := 1) scMembers.nd rfl (Or.inl rfl)) (pgs_cons (pg_name (i := 2) scMembers.nd rfl (Or.inl rfl)) pgs_nil)))
      (fun _ _ _ _ _ => pts_nil) (fun _ _ _ _ _ => pe_tup (pa_cons (pv 1) (pa_cons (pv 2) pa_nil))))) pa_nil))), ?_⟩
    have nxd : x ≠ d := ne_of hx hd (by intro z; cases z)
    have hlen : ps.length ≤ 9 := by rw [hps.length_eq]; exact lst_len g
    refine ⟨d, _, hd, True.intro, fun od => ?_⟩
    refine ⟨_, rfl, x, C, dx, _, _, rfl, by rw [upd_ne nxd]; exact hx, T.cl, T.nF, lookF d, d, od, _, rfl, upd_same, fun L hL => ?_⟩
    have nLd : L ≠ d := by
      intro e
      rw [e, upd_same] at hL
      cases hL
    refine lc_any (n := ps.length) (fun i H' => (∀ b o, (upd H d (.frz od (.dK (ps.map ent)))) b = some o → H' b = some o) ∧ i ≤ ps.length ∧ ∃ ts, H' L = some (.lst ts) ∧ PairsAt H' ts (ps.take i)) ⟨same_upd hL, Nat.zero_le _, [], upd_same, .nil⟩
      (fun i H' hi p => ⟨p.1 _ _ upd_same, by rw [List.length_map]; exact hi⟩) (fun H' p => ⟨p.1 _ _ upd_same, by rw [List.length_map]; exact Nat.le_refl _⟩) (fun i H' v H2 hi p y => ?_) fun H' p => ?_
    · obtain ⟨p1, p2, ts, p3, p4⟩ := p
      obtain ⟨t, kk, vv, hkv, rfl, ht, rfl⟩ := y
      have hps' : ps[i]? = some ps[i] := List.getElem?_eq_getElem hi
      rw [List.getElem?_map, hps'] at hkv
      have ekv : ent ps[i] = (kk, vv) := Option.some.inj hkv
      have ek : Sum.inl (ps[i].1 : Int) = kk := congrArg Prod.fst ekv
      have ev : V.str ps[i].2 = vv := congrArg Prod.snd ekv
      subst ek ev
      refine ⟨t, _, rfl, SqT.of upd_same, rfl, _, _, rfl, _, _, rfl, rfl, rfl, ?_⟩
      refine ⟨_, rfl, _, rfl, by show 2 ≤ sizeLine; decide, fun q hq => ?_⟩
      have nqt : t ≠ q := fun e => by
        rw [← e, upd_same] at hq
        cases hq
      have hq' : H' q = none := by
        rw [upd_ne (Ne.symm nqt)] at hq
        exact hq
      have ntL : L ≠ t := ne_of_none p3 ht
      have nqL : L ≠ q := ne_of_none p3 hq'
      have hL3 : (upd (upd H' t (.tup [kV (Sum.inl (ps[i].1 : Int)), V.str ps[i].2])) q (.tup [V.int (ps[i].1 : Int), V.str ps[i].2])) L = some (.lst ts) := by
        rw [upd_ne nqL, upd_ne ntL]
        exact p3
      have sm : Same H' (upd (upd H' t (.tup [kV (Sum.inl (ps[i].1 : Int)), V.str ps[i].2])) q (.tup [V.int (ps[i].1 : Int), V.str ps[i].2])) := (same_upd ht).trans (same_upd hq)
      have hlt := p4.len
      rw [List.length_take] at hlt
      refine ⟨ts, hL3, small1000 (by omega), fun b o e => ?_, hi, ts ++ [.ref q], upd_same, ?_⟩
      · rw [upd_ne (ne_of_none e hL)]
        exact sm _ _ (p1 _ _ e)
      · rw [List.take_add_one, hps']
        refine PairsAt.app ((p4.same sm).keep (keep_lst hL3)) (.cons ⟨q, rfl, ?_⟩ .nil)
        rw [upd_ne (Ne.symm nqL), upd_same]
        rfl
    · obtain ⟨p1, p2, ts, p3, p4⟩ := p
      have hfd := p1 _ _ upd_same
      rw [List.take_length] at p4
      have sm : Same H (upd H' d (.dK (ps.map ent))) := fun b o e => by
        by_cases q : b = d
        · subst q
          rw [upd_same]
          rw [hd] at e
          exact e
        · rw [upd_ne q]
          exact p1 _ _ (by rw [upd_ne q]; exact e)
      have tups : ∀ v p, PairAt H' v p → PairAt (upd H' d (.dK (ps.map ent))) v p := fun v p h => by
        obtain ⟨t, e, ht⟩ := h
        refine ⟨t, e, ?_⟩
        rw [upd_ne (ne_of ht hfd (by intro z; cases z))]
        exact ht
      have p5 : PairsAt (upd H' d (.dK (ps.map ent))) ts ps := Paired.mapP p4 tups
      refine ⟨hfd, L, ts, rfl, SqL.of (by rw [upd_ne nLd]; exact p3), fun v hv => ?_, fun v hv u hu e => ?_, fun ys p h1 h2 h3 => ?_⟩
      · obtain ⟨_, hh⟩ := pairs_map p5
        obtain ⟨t, et, ht⟩ := hh v hv
        exact ⟨t, _, _, et, ht⟩
      · obtain ⟨e1, hh⟩ := pairs_map p5
        obtain ⟨_, kv⟩ := pOf_at (hh v hv)
        obtain ⟨_, ku⟩ := pOf_at (hh u hu)
        rw [kv, ku] at e
        have e' : (pOf (upd H' d (.dK (ps.map ent))) v).1 = (pOf (upd H' d (.dK (ps.map ent))) u).1 := Int.ofNat.inj e
        have nd : (ps.map (·.1)).Nodup := (hps.map (·.1)).nodup_iff.mpr (lst_nodup g)
        have m1 := pairs_mem p5 hv
        have m2 := pairs_mem p5 hu
        have l1 := lookup_of (k := (pOf (upd H' d (.dK (ps.map ent))) v).1) (f := (pOf (upd H' d (.dK (ps.map ent))) v).2) nd m1
        have l2 := lookup_of (k := (pOf (upd H' d (.dK (ps.map ent))) u).1) (f := (pOf (upd H' d (.dK (ps.map ent))) u).2) nd m2
        rw [e', l2] at l1
        exact (Option.some.inj l1).symm
      · exact k _ p ys (sm.trans (same_upd h3)) upd_same ((sorted_pairs p5 hps h1 h2).same (same_upd h3))
end
end K5

/-! FormSet: in, len, ==, equals. -/
namespace K5
open PySem PySem.Spec PyProof.Rows L2
/-! a set's dict, read -/
theorem valV_ent (k : Nat) : ∀ ps : List (Nat × Str), valV (ps.map ent) (Sum.inl (k : Int)) = (ps.lookup k).map V.str
  | [] => rfl
  | p :: r => by
    obtain ⟨a, b⟩ := p
    rw [List.map_cons, List.lookup_cons]
    by_cases e : k = a
    · subst e
      rw [beq_self_eq_true]
      exact valV_pos (p := ent (k, b)) rfl
    · rw [beq_false_of_ne e, valV_neg (p := ent (a, b)) (k := Sum.inl (k : Int)) (fun z => e (Int.ofNat.inj (Sum.inl.inj z)).symm)]
      exact valV_ent k r
theorem nd_of {g : G} {ps : List (Nat × Str)} (h : ps.Perm (lst g)) : (ps.map (·.1)).Nodup := (h.map (·.1)).nodup_iff.mpr (lst_nodup g)
theorem look_perm {g : G} {ps : List (Nat × Str)} (hg : Good g) (h : ps.Perm (lst g)) : ∀ k, ps.lookup k = g k := fun k => congrFun (look_eq hg.bd (nd_of h) fun p => h.mem_iff) k
theorem len_perm {g : G} {ps : List (Nat × Str)} (h : ps.Perm (lst g)) : ps.length = siz g := h.length_eq
section
variable {P : Program} {w : World} {K : PySem.W.Frag} {mg : Str → Option Value} {base : Heap} {f C : Addr} {fd : FuncData}
theorem scContains : FnScope ["self", "key"] ["self", "key"] (C8.fnScope sContains) := C8.fnScope_by (by decide +kernel)
theorem ok_contains (me : Meth K C "__contains__" f) (F : C8.Fun K "__contains__" "FormSet.__contains__" sContains f fd) (b : Binds K fd ["self", "key"] []) (T : TxtB K mg C) (c : C8.Cal P w K mg base 1 "is_integer" spInteger []) : C8.Met P w K mg base 2 C "__contains__" (spIn C) [] := by
  refine C8.met0 T.cl me F b scContains (fun vs H Q E h => ?_) (fun cdv A outer s H vs Q E hr h => ?_)
  · obtain ⟨x, k, g, rfl, _⟩ := h
    rfl
  · obtain ⟨x, n, g, rfl, ⟨hg, dx, d, ps, hx, hd, hps⟩, k⟩ := h
    refine ⟨_, pss_one (ps_ret (pe_and (C8.pe_c c hr (by decide) (by rfl) (pa_cons (pv 1) pa_nil)) (pe_one (pe_cmp (pc_din (hu_of hr) (pv 1) (pe_fld (pv 0) rfl)) rfl)))), ?_⟩
    refine ⟨_, rfl, _, rfl, true, rfl, iteT ?_⟩
    refine ⟨_, rfl, _, rfl, x, C, dx, _, _, rfl, hx, T.cl, T.nF, lookF d, d, _, rfl, DGet.k (k := Sum.inl (n : Int)) hd, ?_⟩
    rw [valV_ent, look_perm hg hps, Option.isSome_map]
    exact k H (Same.refl H)
theorem scLen : FnScope ["self"] ["self"] (C8.fnScope sLen) := C8.fnScope_by (by decide +kernel)
theorem ok_len (me : Meth K C "__len__" f) (F : C8.Fun K "__len__" "FormSet.__len__" sLen f fd) (b : Binds K fd ["self"] []) (T : TxtB K mg C) : C8.Met P w K mg base 1 C "__len__" (spLen C) [] := by
  refine C8.met0 T.cl me F b scLen (fun vs H Q E h => ?_) (fun cdv A outer s H vs Q E hr h => ?_)
  · obtain ⟨x, g, rfl, _⟩ := h
    rfl
  · obtain ⟨x, g, rfl, ⟨hg, dx, d, ps, hx, hd, hps⟩, k⟩ := h
    refine ⟨_, pss_one (ps_ret (pe_callB call_lenD (by rfl) T.A.len (by decide +kernel) (pa_cons (pe_fld (pv 0) rfl) pa_nil))), ?_⟩
    refine ⟨_, rfl, x, C, dx, _, _, rfl, hx, T.cl, T.nF, lookF d, d, _, rfl, hd, ?_⟩
    rw [List.length_map, len_perm hps]
    exact k H (Same.refl H)
theorem scEq : FnScope ["self", "other"] ["self", "other"] (C8.fnScope sEq) := C8.fnScope_by (by decide +kernel)
theorem ok_eq (me : Meth K C "__eq__" f) (F : C8.Fun K "__eq__" "FormSet.__eq__" sEq f fd) (b : Binds K fd ["self", "other"] []) (T : TxtB K mg C) : C8.Met P w K mg base 1 C "__eq__" (spEq C) [] := by
  refine C8.met0 T.cl me F b scEq (fun vs H Q E h => ?_) (fun cdv A outer s H vs Q E hr h => ?_)
  · obtain ⟨x, y, g, rfl, _⟩ := h
    rfl
  · obtain ⟨x, y, g, rfl, ⟨hg, dx, d, ps, hx, hd, hps⟩, ⟨hg', dy, e, qs, hy, he, hqs⟩, k⟩ := h
    refine ⟨_, pss_one (ps_ret (pe_and (pe_callB (C8.call_isC T.ic) (by rfl) T.A.isi (by decide +kernel) (pa_cons (pv 1) (pa_cons (pe_glob (v := .ref C) (by rfl) T.mgC rfl) pa_nil)))
      (pe_one (pe_cmpR (op_eq_dictA hr.units0) (pe_fld (pv 0) rfl) (pe_fld (pv 1) rfl) (nomark _))))), ?_⟩
    refine ⟨_, rfl, y, dy, _, rfl, hy, true, rfl, iteT ?_⟩
    refine ⟨_, rfl, x, C, dx, _, _, rfl, hx, T.cl, T.nF, lookF d, _, rfl, y, C, dy, _, _, rfl, hy, T.cl, T.nF, lookF e, d, e, _, _, rfl, rfl, hd, he, ?_, fun p hp => ?_, k H (Same.refl H)⟩
    · rw [List.length_map, List.length_map, len_perm hps, len_perm hqs]
    · obtain ⟨q, hq, rfl⟩ := List.mem_map.mp hp
      refine ⟨?_, rfl⟩
      show valV (qs.map ent) (Sum.inl (q.1 : Int)) = some (V.str q.2)
      rw [valV_ent, look_perm hg' hqs, (mem_lst.mp (hps.mem_iff.mp hq)).2]
      rfl
theorem scEquals : FnScope ["self", "other"] ["self", "other"] (C8.fnScope sEquals) := C8.fnScope_by (by decide +kernel)
theorem ints_same (H : Hp) : ∀ ns : List Int, Paired (EqV K H 1) (ns.map V.int) (ns.map V.int)
  | [] => .nil
  | n :: ns => .cons (.inl ⟨rfl, rfl⟩) (ints_same H ns)
theorem ok_equals (me : Meth K C "equals" f) (F : C8.Fun K "equals" "FormSet.equals" sEquals f fd) (b : Binds K fd ["self", "other"] []) (T : TxtB K mg C) : C8.Met P w K mg base 1 C "equals" (spEquals C) [] := by
  refine C8.met0 T.cl me F b scEquals (fun vs H Q E h => ?_) (fun cdv A outer s H vs Q E hr h => ?_)
  · obtain ⟨x, y, g, h, rfl, _⟩ := h
    rfl
  · obtain ⟨x, y, g, h, rfl, ⟨hg, dx, d, ps, hx, hd, hps⟩, ⟨hg', dy, e, qs, hy, he, hqs⟩, hsame, k⟩ := h
    refine ⟨_, pss_one (ps_ret (pe_cmpR (op_eqV hr.units) (pe_callB (call_sortedDI rfl) (by rfl) T.srt (by decide +kernel) (pa_cons (pe_fld (pv 0) rfl) pa_nil)) (pe_callB (call_sortedDI rfl) (by rfl) T.srt (by decide +kernel) (pa_cons (pe_fld (pv 1) rfl) pa_nil)) (nomark _))), ?_⟩
    have keys : ∀ ps : List (Nat × Str), (ps.map ent).map (·.1) = (ps.map fun p => (p.1 : Int)).map Sum.inl := fun ps => by
      rw [List.map_map, List.map_map]
      rfl
    have l1 := lst_len g
    have l2 := lst_len h
    refine ⟨_, rfl, x, C, dx, _, _, rfl, hx, T.cl, T.nF, lookF d, d, _, ps.map (fun p => (p.1 : Int)), rfl, .inl hd, keys ps, by rw [List.length_map, hps.length_eq]; omega, fun ys p hy1 hy2 hp => ?_⟩
    have s1 : Same H (upd H p (.lst (ys.map V.int))) := same_upd hp
    refine ⟨_, rfl, y, C, dy, _, _, rfl, s1 _ _ hy, T.cl, T.nF, lookF e, e, _, qs.map (fun p => (p.1 : Int)), rfl, .inl (s1 _ _ he), keys qs, by rw [List.length_map, hqs.length_eq]; omega, fun zs q hz1 hz2 hq => ?_⟩
    have s2 : Same (upd H p (.lst (ys.map V.int))) (upd (upd H p (.lst (ys.map V.int))) q (.lst (zs.map V.int))) := same_upd hq
    have kk : ∀ {g : G} {ps : List (Nat × Str)}, ps.Perm (lst g) → (ps.map fun p => (p.1 : Int)).Perm ((kys g).map fun k : Nat => (k : Int)) := fun {g ps} z => by
      have := (z.map (·.1)).map (fun k : Nat => (k : Int))
      rw [lst_keys, List.map_map] at this
      exact this
    have e1 : ys = zs := PySem.W.ksm_same (hy1.trans ((kk hps).trans (by rw [kys_same hsame]; exact (kk hqs).symm.trans hz1.symm))) hy2 hz2
    subst e1
    refine ⟨1, by decide, .inl ⟨p, q, _, _, rfl, rfl, SqL.of (s2 _ _ upd_same), SqL.of upd_same, ints_same _ ys⟩, k _ (s1.trans s2)⟩
end
end K5

/-! FormSet: kept, -, |, &, ^, joined. -/
namespace K5
open PySem PySem.Spec PyProof.Rows L2
theorem make_ok {K : PySem.W.Frag} {C a : Addr} {H1 : Hp} {Q : VK} {E : XK} {xs : List V} {ps : List (Nat × Str)} (hg : Given K H1 a xs) (hp : PairsAt H1 xs ps) (hq : Goods ps) (hl : xs.length ≤ 1000)
    (k : ∀ H' r, Same H1 H' → FS C H' r (look ps) → Q (.ref r) H') : ∀ x dx, H1 x = none → H1 dx = none → dx ≠ x → spInit K C [.ref x, .ref a] (upd (upd H1 dx (.own x)) x (.ins C dx [])) (fun v H2 => v = .non ∧ Q (.ref x) H2) E := by
  intro x dx nx ndx ne
  have s1 : Same H1 (upd (upd H1 dx (.own x)) x (.ins C dx [])) := fun b o e => by
    rw [upd_ne (ne_of_none e nx), upd_ne (ne_of_none e ndx)]
    exact e
  exact ⟨x, a, dx, xs, ps, rfl, upd_same, hg.same s1, hp.same s1, hq, hl, fun H' kp fs => ⟨rfl, k H' x (fun b o e => kp b o (s1 b o e) (ne_of_none e nx)) fs⟩⟩
theorem pairs_in {H : Hp} {xs : List V} {ps : List (Nat × Str)} (h : PairsAt H xs ps) {i : Nat} (hi : i < xs.length) {v : V} (hv : xs[i]? = some v) : ∃ p t, ps[i]? = some p ∧ v = .ref t ∧ H t = some (.tup [.int (p.1 : Int), .str p.2]) := by
  obtain ⟨p, h1, t, h2, h3⟩ := h.get hv
  exact ⟨p, t, h1, h2, h3⟩
theorem take_snoc {α : Type} {l : List α} {i : Nat} {p : α} (h : l[i]? = some p) : l.take (i + 1) = l.take i ++ [p] := by
  rw [List.take_add_one, h]
  rfl
section
variable {P : Program} {w : World} {K : PySem.W.Frag} {mg : Str → Option Value} {base : Heap} {f C : Addr} {fd : FuncData}
theorem scKept : FnScope ["self", "other", "element"] ["self", "other"] (C8.fnScope sKept) := C8.fnScope_by (by decide +kernel)
theorem ok_kept (me : Meth K C "kept" f) (F : C8.Fun K "kept" "FormSet.kept" sKept f fd) (b : Binds K fd ["self", "other"] []) (T : TxtB K mg C) (cI : C8.Mak P w K mg base 6 "FormSet" C (spInit K C) []) (cM : C8.Met P w K mg base 1 C "members" (spMem C) [])
    (cN : C8.Met P w K mg base 2 C "__contains__" (spIn C) []) : C8.Met P w K mg base 8 C "kept" (spBin C keptG) [] := by
  refine C8.met0 T.cl me F b scKept (fun vs H Q E h => ?_) (fun cdv A outer s H vs Q E hr h => ?_)
  · obtain ⟨x, y, g, h, rfl, _⟩ := h
    rfl
  · obtain ⟨x, y, g, h, rfl, hx, hy, k⟩ := h
    refine ⟨_, pss_one (ps_ret (C8.pe_mk cI hr (by decide) (by rfl) (pa_cons (pe_lc (own := [("element", 2)]) (g := gName 2) (tt := tTest (tOp (rInOwn C (fun vs H Q E => spIn C (vs ++ []) H Q E) C8.E0 fun k => k) (tOp (rIxT K) (tVar 2) (tC (.int 0))) (tVar 1))) (te := tVar 2) rfl scKept.nd (pi_list (C8.pe_mt0 cM hr (by decide) (pv 0)))
      (blkOk_by (own := [("element", 2)]) (N := ["self", "other", "element"]) (sc := C8.fnScope sKept) (by decide +kernel)) (fun _ _ _ _ _ => pg_name (i := 2) scKept.nd rfl (Or.inl rfl))
      (fun _ _ _ _ _ => pts_one (pt_cmpR (op_inM cN hr (by decide)) (pe_ix ix_tup (pv 2) pe_int (fun _ _ => rfl)) (pv 1) (by rfl))) (fun _ _ _ _ _ => pv 2)) pa_nil))), ?_⟩
    obtain ⟨_, dx, d, ps, hxo, _⟩ := id hx
    refine ⟨_, rfl, x, dx, _, rfl, hxo, noF d (by decide +kernel), x, g, rfl, hx, fun H1 l xs s1 hl hp => ⟨l, rfl, ⟨_, SqL.of hl⟩, fun L hL => ?_⟩⟩
    have nlL : l ≠ L := ne_of_none hl hL
    have hlp := hp.len
    refine lc_any (n := xs.length) (fun i H' => Same H1 H' ∧ i ≤ xs.length ∧ ∃ acc, H' L = some (.lst acc) ∧ PairsAt H' acc (((lst g).take i).filter fun p => (h p.1).isSome)) ⟨same_upd hL, Nat.zero_le _, [], upd_same, .nil⟩
      (fun i H' hi p => ⟨xs, xs[i], SqL.of (p.1 _ _ hl), List.getElem?_eq_getElem hi⟩) (fun H' p => ⟨xs, SqL.of (p.1 _ _ hl), Nat.le_refl _⟩) (fun i H' v H2 hi p y' => ?_) fun H' p => ?_
    · obtain ⟨p1, p2, acc, p3, p4⟩ := p
      obtain ⟨rfl, y'⟩ := y'
      obtain ⟨q, t, hq1, rfl, ht⟩ := pairs_in hp hi (y' xs (SqL.of (p1 _ _ hl)))
      refine ⟨rfl, ?_⟩
      obtain ⟨_, dy, e, qs, hyo, _⟩ := id hy
      refine ⟨_, rfl, t, _, _, _, rfl, rfl, SqT.of (p1 _ _ ht), atI_nat (j := 0) rfl, ?_⟩
      refine ⟨_, rfl, y, dy, _, rfl, p1 _ _ (s1 _ _ hyo), y, q.1, h, rfl, hy.same (s1.trans p1), fun H3 s3 => ⟨_, rfl, _, rfl, ?_⟩⟩
      have p5 : PairsAt H3 acc (((lst g).take i).filter fun p => (h p.1).isSome) := p4.same s3
      have e1 : ((lst g).take (i + 1)).filter (fun p => (h p.1).isSome) = ((lst g).take i).filter (fun p => (h p.1).isSome) ++ [q].filter fun p => (h p.1).isSome := by
        rw [take_snoc hq1, List.filter_append]
      refine ite2 (fun hb => ?_) (fun hb => ?_)
      · have el : acc.length ≤ 1000 := by
          have e2 := p4.len
          have e3 := List.length_filter_le (fun p : Nat × Str => (h p.1).isSome) ((lst g).take i)
          rw [List.length_take] at e3
          have e4 := lst_len g
          omega
        have e2 : [q].filter (fun p => (h p.1).isSome) = [q] := by rw [List.filter_cons, if_pos hb, List.filter_nil]
        refine ⟨_, rfl, acc, s3 _ _ p3, small1000 el, fun b o e => ?_, hi, acc ++ [.ref t], upd_same, ?_⟩
        · rw [upd_ne (ne_of_none e hL)]
          exact s3 _ _ (p1 _ _ e)
        · rw [e1, e2]
          exact (p5.keep (keep_lst (s3 _ _ p3))).app (.cons ⟨t, rfl, keep_lst (s3 _ _ p3) _ _ (s3 _ _ (p1 _ _ ht)) (by intro xs z; cases z)⟩ .nil)
      · have e2 : [q].filter (fun p => (h p.1).isSome) = [] := by rw [List.filter_cons, if_neg hb, List.filter_nil]
        exact ⟨p1.trans s3, hi, acc, s3 _ _ p3, by rw [e1, e2, List.append_nil]; exact p5⟩
    · obtain ⟨p1, p2, acc, p3, p4⟩ := p
      rw [hlp, List.take_length] at p4
      have hgl : Goods ((lst g).filter fun p => (h p.1).isSome) := fun p hp => hx.1.goods p (List.mem_filter.mp hp).1
      have el : acc.length ≤ 1000 := by
        have e2 := p4.len
        have e3 := List.length_filter_le (fun p : Nat × Str => (h p.1).isSome) (lst g)
        have e4 := lst_len g
        omega
      refine make_ok (.inl p3) p4 hgl el fun H3 r s3 fs => k H3 r ((s1.trans p1).trans s3) ?_
      have e : look ((lst g).filter fun p => (h p.1).isSome) = keptG g h := by
        rw [look_filter (fun k => (h k).isSome), look_lst hx.1.bd]
        rfl
      rw [e] at fs
      exact fs
theorem scSub : FnScope ["self", "other", "element"] ["self", "other"] (C8.fnScope sSub) := C8.fnScope_by (by decide +kernel)
theorem ok_sub (me : Meth K C "__sub__" f) (F : C8.Fun K "__sub__" "FormSet.__sub__" sSub f fd) (b : Binds K fd ["self", "other"] []) (T : TxtB K mg C) (cI : C8.Mak P w K mg base 6 "FormSet" C (spInit K C) []) (cM : C8.Met P w K mg base 1 C "members" (spMem C) [])
    (cN : C8.Met P w K mg base 2 C "__contains__" (spIn C) []) : C8.Met P w K mg base 8 C "__sub__" (spBin C subG) [] := by
  refine C8.met0 T.cl me F b scSub (fun vs H Q E h => ?_) (fun cdv A outer s H vs Q E hr h => ?_)
  · obtain ⟨x, y, g, h, rfl, _⟩ := h
    rfl
  · obtain ⟨x, y, g, h, rfl, hx, hy, k⟩ := h
    refine ⟨_, pss_one (ps_ret (C8.pe_mk cI hr (by decide) (by rfl) (pa_cons (pe_lc (own := [("element", 2)]) (g := gName 2) (tt := tTest (tOp (rInOwn C (fun vs H Q E => spIn C (vs ++ []) H Q E) C8.E0 fun k => !k) (tOp (rIxT K) (tVar 2) (tC (.int 0))) (tVar 1))) (te := tVar 2) rfl scSub.nd (pi_list (C8.pe_mt0 cM hr (by decide) (pv 0)))
      (blkOk_by (own := [("element", 2)]) (N := ["self", "other", "element"]) (sc := C8.fnScope sSub) (by decide +kernel)) (fun _ _ _ _ _ => pg_name (i := 2) scSub.nd rfl (Or.inl rfl))
      (fun _ _ _ _ _ => pts_one (pt_cmpR (op_notInM cN hr (by decide)) (pe_ix ix_tup (pv 2) pe_int (fun _ _ => rfl)) (pv 1) (by rfl))) (fun _ _ _ _ _ => pv 2)) pa_nil))), ?_⟩
    obtain ⟨_, dx, d, ps, hxo, _⟩ := id hx
    refine ⟨_, rfl, x, dx, _, rfl, hxo, noF d (by decide +kernel), x, g, rfl, hx, fun H1 l xs s1 hl hp => ⟨l, rfl, ⟨_, SqL.of hl⟩, fun L hL => ?_⟩⟩
    have nlL : l ≠ L := ne_of_none hl hL
    have hlp := hp.len
    refine lc_any (n := xs.length) (fun i H' => Same H1 H' ∧ i ≤ xs.length ∧ ∃ acc, H' L = some (.lst acc) ∧ PairsAt H' acc (((lst g).take i).filter fun p => !(h p.1).isSome)) ⟨same_upd hL, Nat.zero_le _, [], upd_same, .nil⟩
      (fun i H' hi p => ⟨xs, xs[i], SqL.of (p.1 _ _ hl), List.getElem?_eq_getElem hi⟩) (fun H' p => ⟨xs, SqL.of (p.1 _ _ hl), Nat.le_refl _⟩) (fun i H' v H2 hi p y' => ?_) fun H' p => ?_
    · obtain ⟨p1, p2, acc, p3, p4⟩ := p
      obtain ⟨rfl, y'⟩ := y'
      obtain ⟨q, t, hq1, rfl, ht⟩ := pairs_in hp hi (y' xs (SqL.of (p1 _ _ hl)))
      refine ⟨rfl, ?_⟩
      obtain ⟨_, dy, e, qs, hyo, _⟩ := id hy
      refine ⟨_, rfl, t, _, _, _, rfl, rfl, SqT.of (p1 _ _ ht), atI_nat (j := 0) rfl, ?_⟩
      refine ⟨_, rfl, y, dy, _, rfl, p1 _ _ (s1 _ _ hyo), y, q.1, h, rfl, hy.same (s1.trans p1), fun H3 s3 => ⟨_, rfl, _, rfl, ?_⟩⟩
      have p5 : PairsAt H3 acc (((lst g).take i).filter fun p => !(h p.1).isSome) := p4.same s3
      have e1 : ((lst g).take (i + 1)).filter (fun p => !(h p.1).isSome) = ((lst g).take i).filter (fun p => !(h p.1).isSome) ++ [q].filter fun p => !(h p.1).isSome := by
        rw [take_snoc hq1, List.filter_append]
      refine ite2 (fun hb => ?_) (fun hb => ?_)
      · have el : acc.length ≤ 1000 := by
          have e2 := p4.len
          have e3 := List.length_filter_le (fun p : Nat × Str => !(h p.1).isSome) ((lst g).take i)
          rw [List.length_take] at e3
          have e4 := lst_len g
          omega
        have e2 : [q].filter (fun p => !(h p.1).isSome) = [q] := by rw [List.filter_cons, if_pos hb, List.filter_nil]
        refine ⟨_, rfl, acc, s3 _ _ p3, small1000 el, fun b o e => ?_, hi, acc ++ [.ref t], upd_same, ?_⟩
        · rw [upd_ne (ne_of_none e hL)]
          exact s3 _ _ (p1 _ _ e)
        · rw [e1, e2]
          exact (p5.keep (keep_lst (s3 _ _ p3))).app (.cons ⟨t, rfl, keep_lst (s3 _ _ p3) _ _ (s3 _ _ (p1 _ _ ht)) (by intro xs z; cases z)⟩ .nil)
      · have e2 : [q].filter (fun p => !(h p.1).isSome) = [] := by rw [List.filter_cons, if_neg hb, List.filter_nil]
        exact ⟨p1.trans s3, hi, acc, s3 _ _ p3, by rw [e1, e2, List.append_nil]; exact p5⟩
    · obtain ⟨p1, p2, acc, p3, p4⟩ := p
      rw [hlp, List.take_length] at p4
      have hgl : Goods ((lst g).filter fun p => !(h p.1).isSome) := fun p hp => hx.1.goods p (List.mem_filter.mp hp).1
      have el : acc.length ≤ 1000 := by
        have e2 := p4.len
        have e3 := List.length_filter_le (fun p : Nat × Str => !(h p.1).isSome) (lst g)
        have e4 := lst_len g
        omega
      refine make_ok (.inl p3) p4 hgl el fun H3 r s3 fs => k H3 r ((s1.trans p1).trans s3) ?_
      have e : look ((lst g).filter fun p => !(h p.1).isSome) = subG g h := by
        rw [look_filter (fun k => !(h k).isSome), look_lst hx.1.bd]
        funext k
        show (bif !(h k).isSome then g k else none) = bif (h k).isSome then none else g k
        cases h k <;> rfl
      rw [e] at fs
      exact fs
theorem good_or {g h : G} (a : Good g) (b : Good h) : Good (orG g h) := fun k f e => by
  have e' : (g k).or (h k) = some f := e
  cases q : g k with
  | some z =>
    rw [q] at e'
    exact a k f (by rw [q]; exact e')
  | none =>
    rw [q] at e'
    exact b k f e'
theorem scOr : FnScope ["self", "other", "first", "last"] ["self", "other"] (C8.fnScope sOr) := C8.fnScope_by (by decide +kernel)
theorem ok_or (me : Meth K C "__or__" f) (F : C8.Fun K "__or__" "FormSet.__or__" sOr f fd) (b : Binds K fd ["self", "other"] []) (T : TxtB K mg C) (cI : C8.Mak P w K mg base 6 "FormSet" C (spInit K C) []) (cM : C8.Met P w K mg base 1 C "members" (spMem C) []) :
    C8.Met P w K mg base 8 C "__or__" (spBin C orG) [] := by
  refine C8.met0 T.cl me F b scOr (fun vs H Q E h => ?_) (fun cdv A outer s H vs Q E hr h => ?_)
  · obtain ⟨x, y, g, h, rfl, _⟩ := h
    rfl
  · obtain ⟨x, y, g, h, rfl, hx, hy, k⟩ := h
    refine ⟨_, pss_cons (ps_par (i := 2) (j := 3) rfl scOr.nd rfl rfl (by decide) rfl rfl (pa_cons (C8.pe_mt0 cM hr (by decide) (pv 0)) (pa_cons (C8.pe_mt0 cM hr (by decide) (pv 1)) pa_nil)) (by rfl))
      (pss_one (ps_ret (C8.pe_mk cI hr (by decide) (by rfl) (pa_cons (pe_lst (StX.pa_star (pv 2) (StX.pa_star (pv 3) pa_nil))) pa_nil)))), ?_⟩
    obtain ⟨_, dx, d, ps, hxo, _⟩ := id hx
    obtain ⟨_, dy, e, qs, hyo, _⟩ := id hy
    refine ⟨_, rfl, x, dx, _, rfl, hxo, noF d (by decide +kernel), x, g, rfl, hx, fun H1 l xs s1 hl hp => ?_⟩
    refine ⟨_, rfl, y, dy, _, rfl, s1 _ _ hyo, noF e (by decide +kernel), y, h, rfl, hy.same s1, fun H2 m ys s2 hm hq => ?_⟩
    refine ⟨_, _, rfl, ?_⟩
    refine ⟨_, rfl, l, xs, rfl, .inr (SqL.of (s2 _ _ hl)), _, rfl, m, ys, rfl, .inr (SqL.of hm), ?_⟩
    have l1 := hp.len
    have l2 := hq.len
    have l3 := lst_len g
    have l4 := lst_len h
    have l5 : (xs ++ (ys ++ [])).length ≤ 18 := by rw [List.append_nil, List.length_append]; omega
    refine ⟨Nat.le_trans l5 (by decide), fun p hp0 => ?_⟩
    have s3 : Same H2 (upd H2 p (.lst (xs ++ (ys ++ [])))) := same_upd hp0
    have hpq : PairsAt (upd H2 p (.lst (xs ++ (ys ++ [])))) (xs ++ (ys ++ [])) (lst g ++ lst h) := by
      rw [List.append_nil]
      exact ((hp.same s2).app hq).same (by rw [List.append_nil] at s3; exact s3)
    have hgo : Goods (lst g ++ lst h) := fun p hp => (List.mem_append.mp hp).elim (hx.1.goods p) (hy.1.goods p)
    refine make_ok (.inl upd_same) hpq hgo (by omega) fun H3 r s4 fs => k H3 r (((s1.trans s2).trans s3).trans s4) ?_
    rw [look_app, look_lst hx.1.bd, look_lst hy.1.bd] at fs
    exact fs
theorem FS.ins {H : Hp} {x : Addr} {g : G} (h : FS C H x g) : ∃ dx fs, H x = some (.ins C dx fs) ∧ ∀ m : Str, (m == ("forms" : Str)) = false → fs.lookup m = none := by
  obtain ⟨_, dx, d, ps, hx, _⟩ := h
  exact ⟨dx, _, hx, fun m hm => noF d hm⟩
theorem siz_int (g : G) : (0 : Int) ≤ (siz g : Int) ∧ (siz g : Int) < 2 ^ 63 := by
  have := siz_le g
  omega
theorem scAnd : FnScope ["self", "other"] ["self", "other"] (C8.fnScope sAnd) := C8.fnScope_by (by decide +kernel)
theorem ok_and (me : Meth K C "__and__" f) (F : C8.Fun K "__and__" "FormSet.__and__" sAnd f fd) (b : Binds K fd ["self", "other"] []) (T : TxtB K mg C) (cK : C8.Met P w K mg base 8 C "kept" (spBin C keptG) []) (cL : C8.Met P w K mg base 1 C "__len__" (spLen C) []) :
    C8.Met P w K mg base 9 C "__and__" (spBin C andG) [] := by
  refine C8.met0 T.cl me F b scAnd (fun vs H Q E h => ?_) (fun cdv A outer s H vs Q E hr h => ?_)
  · obtain ⟨x, y, g, h, rfl, _⟩ := h
    rfl
  · obtain ⟨x, y, g, h, rfl, hx, hy, k⟩ := h
    refine ⟨_, pss_one (ps_ret (pe_ifExp (pt_cmpR op_lt (pe_callB (call_lenM cL hr (by decide)) (by rfl) T.A.len (by decide +kernel) (pa_cons (pv 0) pa_nil)) (pe_callB (call_lenM cL hr (by decide)) (by rfl) T.A.len (by decide +kernel) (pa_cons (pv 1) pa_nil)) (nomark _))
      (C8.pe_mt cK hr (by decide) (pv 0) (pa_cons (pv 1) pa_nil)) (C8.pe_mt cK hr (by decide) (pv 1) (pa_cons (pv 0) pa_nil)))), ?_⟩
    obtain ⟨dx, fs, hxo, nx⟩ := hx.ins
    obtain ⟨dy, gs, hyo, ny⟩ := hy.ins
    refine ⟨_, rfl, x, dx, fs, rfl, hxo, x, g, rfl, hx, fun H1 s1 => ⟨_, rfl, siz_int g, ?_⟩⟩
    refine ⟨_, rfl, y, dy, gs, rfl, s1 _ _ hyo, y, h, rfl, hy.same s1, fun H2 s2 => ⟨_, rfl, siz_int h, _, _, rfl, rfl, _, rfl, ?_⟩⟩
    have s3 := s1.trans s2
    refine ite2 (fun hc => ?_) (fun hc => ?_)
    · have hlt : siz g < siz h := by
        have := of_decide_eq_true hc
        omega
      refine ⟨_, rfl, x, dx, fs, rfl, s3 _ _ hxo, nx _ (by decide +kernel), _, rfl, x, y, g, h, rfl, hx.same s3, hy.same s3, fun H3 r s4 fs => k H3 r (s3.trans s4) ?_⟩
      rw [and_lt hlt]
      exact fs
    · have hlt : ¬ siz g < siz h := fun q => hc (decide_eq_true (by omega))
      refine ⟨_, rfl, y, dy, gs, rfl, s3 _ _ hyo, ny _ (by decide +kernel), _, rfl, y, x, h, g, rfl, hy.same s3, hx.same s3, fun H3 r s4 fs => k H3 r (s3.trans s4) ?_⟩
      rw [and_ge hlt]
      exact fs
theorem scXor : FnScope ["self", "other"] ["self", "other"] (C8.fnScope sXor) := C8.fnScope_by (by decide +kernel)
theorem ok_xor (me : Meth K C "__xor__" f) (F : C8.Fun K "__xor__" "FormSet.__xor__" sXor f fd) (b : Binds K fd ["self", "other"] []) (T : TxtB K mg C) (cO : C8.Met P w K mg base 8 C "__or__" (spBin C orG) []) (cS : C8.Met P w K mg base 8 C "__sub__" (spBin C subG) []) :
    C8.Met P w K mg base 9 C "__xor__" (spBin C xorG) [] := by
  refine C8.met0 T.cl me F b scXor (fun vs H Q E h => ?_) (fun cdv A outer s H vs Q E hr h => ?_)
  · obtain ⟨x, y, g, h, rfl, _⟩ := h
    rfl
  · obtain ⟨x, y, g, h, rfl, hx, hy, k⟩ := h
    refine ⟨_, pss_one (ps_ret (pe_op (op_binM T.sf cO rfl hr (by decide)) (pe_op (op_binM T.sf cS rfl hr (by decide)) (pv 0) (pv 1)) (pe_op (op_binM T.sf cS rfl hr (by decide)) (pv 1) (pv 0)))), ?_⟩
    obtain ⟨dx, fs, hxo, nx⟩ := hx.ins
    obtain ⟨dy, gs, hyo, ny⟩ := hy.ins
    refine ⟨_, rfl, _, rfl, x, y, dx, dy, _, _, rfl, rfl, hxo, hyo, x, y, g, h, rfl, hx, hy, fun H1 r1 s1 f1 => ?_⟩
    refine ⟨_, rfl, _, rfl, y, x, dy, dx, _, _, rfl, rfl, s1 _ _ hyo, s1 _ _ hxo, y, x, h, g, rfl, hy.same s1, hx.same s1, fun H2 r2 s2 f2 => ?_⟩
    obtain ⟨d1, a1, o1, _⟩ := (f1.same s2).ins
    obtain ⟨d2, a2, o2, _⟩ := f2.ins
    exact ⟨r1, r2, d1, d2, _, _, rfl, rfl, o1, o2, r1, r2, _, _, rfl, f1.same s2, f2, fun H3 r s3 f3 => k H3 r ((s1.trans s2).trans s3) f3⟩
/-! joined, with two others -/
def seqG (g h i : G) : Nat → G
  | 0 => g
  | 1 => orG g h
  | _ + 2 => orG (orG g h) i
theorem scJoined : FnScope ["self", "others", "found", "other"] (([("self" : Str)] : List Str) ++ [("others" : Str)]) (C8.fnScope sJoined) := C8.fnScope_by (by decide +kernel)
/-- its promise by positional values -/
def spJ2 (C : Addr) : Sp := fun vs H Q _ => ∃ x y z g h i, vs = [.ref x, .ref y, .ref z] ∧ FS C H x g ∧ FS C H y h ∧ FS C H z i ∧ ∀ H' r, Same H H' → FS C H' r (orG (orG g h) i) → Q (.ref r) H'
theorem ok_joined (F : C8.Fun K "joined" "FormSet.joined" sJoined f fd) (df : fd.defaults = .none) (T : TxtB K mg C) (cO : C8.Met P w K mg base 8 C "__or__" (spBin C orG) []) : FnR P w K mg base C8.CX0 9 f (spJ2 C) := by
  obtain ⟨oc, od, dV, kV, doc, pm, an, cdv, ct, osl, rfl, lk, hcd⟩ := F.ex
  have e : dV = .none := df
  subst e
  have key := StX.fn_star (P := P) (w := w) (mg := mg) (base := base) (CX := C8.CX0) (k := 8) (ps := ["self"]) (pv := "others") (sp := spJoined C) lk hcd scJoined StX.cxUp_none (StX.bind_star1 (B := fun us => bindArgs (PySem.W.fnOf "joined" "FormSet.joined" (C8.fnArgs sJoined) (C8.fnBody sJoined) (C8.fnScope sJoined) .none kV doc pm an cdv ct) ⟨us, []⟩) (p1 := "self") (pv := "others") (fun a => rfl) (fun a r rs => rfl)) (fun A outer s H vs Q E hr h => ?_)
  · refine key.imp fun vs H Q E h => ?_
    obtain ⟨x, y, z, g, h, i, rfl, hx, hy, hz, k⟩ := h
    refine ⟨[.ref x], [.ref y, .ref z], rfl, rfl, by show 2 ≤ sizeLine; decide, fun p hp => ?_⟩
    have s1 : Same H (upd H p (.tup [.ref y, .ref z])) := same_upd hp
    exact ⟨x, p, y, z, g, h, i, rfl, hx.same s1, hy.same s1, hz.same s1, upd_same, fun H' r s2 fs => k H' r (s1.trans s2) fs⟩
  · obtain ⟨x, p, y, z, g, h, i, rfl, hx, hy, hz, hp, k⟩ := h
    have body : ∃ t, PSs (cxOf C8.CX0 P w K mg base ["self", "others", "found", "other"] "FormSet.joined" (C8.fnScope sJoined) f cdv A outer s H E).nox (C8.fnBody sJoined) t ∧ t { nx := fun _ H' => Q .non H', rt := Q } (L2.start ["self", "others", "found", "other"] [.ref x, .ref p]) H := by
      refine ⟨_, pss_cons (ps_set (i := 2) scJoined.nd rfl (Or.inl rfl) (pv 0)) (pss_cons (ps_for PassesOwn.never rfl (pi_tup (pv 1)) (pg_name (i := 3) scJoined.nd rfl (Or.inl rfl))
        (pss_one (ps_set (i := 2) scJoined.nd rfl (Or.inl rfl) (pe_op (op_binM T.sf cO rfl hr (by decide)) (pv 2) (pv 3))))) (pss_one (ps_ret (pv 2)))), ?_⟩
      refine ⟨_, rfl, _, rfl, p, rfl, ⟨_, SqT.of hp⟩, for_tup (K := K) (a := p) (xs := [.ref y, .ref z]) (fun j σ H2 => Same H H2 ∧ ∃ r v, σ = [some (.ref x), some (.ref p), some (.ref r), v] ∧ FS C H2 r (seqG g h i j))
        ⟨Same.refl H, x, none, rfl, hx⟩ (fun j σ H2 _ q => SqT.of (q.1 _ _ hp)) ?_ ?_⟩
      · rintro j v σ H2 hj ⟨s1, r, v0, rfl, fr⟩
        obtain ⟨dr, ar, or_, _⟩ := fr.ins
        match j, hj with
        | 0, hj =>
          have ev : V.ref y = v := by simpa using hj
          subst ev
          obtain ⟨dy, ay, oy, _⟩ := (hy.same s1).ins
          exact ⟨_, rfl, _, rfl, r, y, dr, dy, _, _, rfl, rfl, or_, oy, r, y, _, _, rfl, fr, hy.same s1, fun H3 q s3 f3 => ⟨s1.trans s3, q, _, rfl, f3⟩⟩
        | 1, hj =>
          have ev : V.ref z = v := by simpa using hj
          subst ev
          obtain ⟨dz, az, oz, _⟩ := (hz.same s1).ins
          exact ⟨_, rfl, _, rfl, r, z, dr, dz, _, _, rfl, rfl, or_, oz, r, z, _, _, rfl, fr, hz.same s1, fun H3 q s3 f3 => ⟨s1.trans s3, q, _, rfl, f3⟩⟩
        | j + 2, hj => simp at hj
      · rintro σ H2 ⟨s1, r, v0, rfl, fr⟩
        exact ⟨_, rfl, k H2 r s1 fr⟩
    obtain ⟨t, h1, h2⟩ := body
    exact ⟨t, h1.nox, h2⟩
end
end K5

/-! The law's draws: _law_bag, _law_take, _law_set. -/
namespace K5
open PySem PySem.Spec PyProof.Rows L2
/-- what the top has left, for the law's own defs -/
structure TxtL (K : PySem.W.Frag) (mg : Str → Option Value) (C : Addr) : Prop where
  B : TxtB K mg C
  abs : mg "abs" = none
  range : mg "range" = none
  max : mg "max" = none
  min : mg "min" = none
/-- a source of draws stands at b: k draws at most n -/
def BagAt (H : Hp) (b : Addr) (n : Int) : Prop := ∃ far seed k : Int, H b = some (.lst [.int far, .int seed, .int k]) ∧ 0 ≤ far ∧ 0 ≤ seed ∧ seed < 2305843009213693951 ∧ 0 ≤ k ∧ k ≤ n
/-- all but b is as it was -/
def But (b : Addr) (H H' : Hp) : Prop := ∀ a o, H a = some o → a ≠ b → H' a = some o
theorem But.trans {b : Addr} {H H1 H2 : Hp} (x : But b H H1) (y : But b H1 H2) : But b H H2 := fun a o e n => y a o (x a o e n) n
theorem but_of {b : Addr} {H H' : Hp} (s : Same H H') : But b H H' := fun a o e _ => s a o e
theorem BagAt.but {H H' : Hp} {b : Addr} {n : Int} (h : BagAt H b n) (s : Same H H') : BagAt H' b n := by
  obtain ⟨far, seed, k, h1, h2⟩ := h
  exact ⟨far, seed, k, s _ _ h1, h2⟩
theorem BagAt.is {H : Hp} {b : Addr} {n : Int} (h : BagAt H b n) : ∃ xs, H b = some (.lst xs) := by
  obtain ⟨far, seed, k, h1, _⟩ := h
  exact ⟨_, h1⟩
theorem But.keep {b : Addr} {H H' : Hp} {xs : List V} (h : H b = some (.lst xs)) (s : But b H H') : Keep H H' := fun a o e n => s a o e fun q => by
  subst q
  rw [h] at e
  cases e
  exact n xs rfl
def spBag (K : PySem.W.Frag) : Sp := fun vs H Q _ => ∃ (a : Addr) (ns : List Int) (i : Nat), vs = [.ref a, .int (i : Int)] ∧ SqL K H a (ns.map V.int) ∧ i < 100 ∧ ∀ H' b, Same H H' → H b = none → BagAt H' b 0 → Q (.ref b) H'
def spTake : Sp := fun vs H Q _ => ∃ (b : Addr) (m n : Int), vs = [.ref b, .int m] ∧ BagAt H b n ∧ n ≤ 1000 ∧ 1 ≤ m ∧ m ≤ 100 ∧ ∀ H' r, BagAt H' b (n + 1) → But b H H' → 0 ≤ r → r < m → Q (.int r) H'
def forms3 : List Str := ["p", "q", "r"]
def spSet (C : Addr) : Sp := fun vs H Q _ => ∃ (b : Addr) (m n : Int) (z : Str), vs = [.ref b, .int m, .str z] ∧ BagAt H b n ∧ n ≤ 500 ∧ 4 ≤ m ∧ m ≤ 9 ∧ z ∈ forms3 ∧ ∀ H' x g, BagAt H' b (n + 40) → But b H H' → FS C H' x g → Q (.ref x) H'
section
variable {P : Program} {w : World} {K : PySem.W.Frag} {mg : Str → Option Value} {base : Heap} {f C : Addr} {fd : FuncData}
theorem scBag : FnScope ["_law_script", "_law_at", "_law_cell", "_law_far"] ["_law_script", "_law_at"] (C8.fnScope sBag) := C8.fnScope_by (by decide +kernel)
theorem ok_bag (D : C8.Def K mg "_law_bag" sBag f fd) (b : Binds K fd ["_law_script", "_law_at"] []) (T : TxtL K mg C) : C8.Cal P w K mg base 1 "_law_bag" (spBag K) [] := by
  refine C8.cal0 D b .nil scBag (fun vs H Q E h => ?_) (fun cdv A outer s H vs Q E hr h => ?_)
  · obtain ⟨a, ns, i, rfl, _⟩ := h
    rfl
  · obtain ⟨a, ns, i, rfl, hs, hi, k⟩ := h
    refine ⟨_, C8.pss_cut (ps_set (i := 2) scBag.nd rfl (Or.inl rfl) (pe_ifExp (pt_cmpR op_lt (pv 1) (pe_callB call_len_seq (by rfl) T.B.A.len (by decide +kernel) (pa_cons (pv 0) pa_nil)) (nomark _)) (pe_ix ix_list (pv 0) (pv 1) (fun _ _ => rfl)) pe_int))
      (C8.pss_cut (ps_set (i := 3) scBag.nd rfl (Or.inl rfl) (pe_ifExp (pt_cmpR op_ge (pe_callB call_abs (by rfl) T.abs (by decide +kernel) (pa_cons (pv 2) pa_nil)) (pe_op op_pow pe_int pe_int) (nomark _)) (pe_callB call_abs (by rfl) T.abs (by decide +kernel) (pa_cons (pv 2) pa_nil)) pe_int))
      (pss_one (ps_ret (pe_lst (pa_cons (pv 3) (pa_cons (pe_op op_mod (pe_op op_mul (pe_op op_add (pe_op op_add (pe_op op_mod (pv 2) pe_int) (pe_op op_mul pe_int (pv 1))) pe_int) pe_int) pe_int) (pa_cons pe_int pa_nil))))))), ?_⟩
    refine ⟨fun σ' H' => H' = H ∧ ∃ c : Int, σ' = [some (.ref a), some (.int (i : Int)), some (.int c), none], ?_, ?_⟩
    · refine ⟨_, rfl, _, rfl, a, _, rfl, .inl hs, _, _, rfl, rfl, _, rfl, ite2 (fun hc => ?_) (fun hc => ?_)⟩
      · have hlt := of_decide_eq_true hc
        rw [List.length_map] at hlt
        have hlt2 : i < ns.length := by omega
        refine ⟨_, rfl, _, rfl, a, _, _, .int ns[i], rfl, rfl, hs, atI_nat (j := i) ?_, rfl, _, rfl⟩
        rw [List.getElem?_map, List.getElem?_eq_getElem hlt2]
        rfl
      · exact ⟨rfl, _, rfl⟩
    · rintro σ' H' ⟨rfl, c, rfl⟩
      refine ⟨fun σ' H2 => H2 = H' ∧ ∃ far : Int, 0 ≤ far ∧ σ' = [some (.ref a), some (.int (i : Int)), some (.int c), some (.int far)], ?_, ?_⟩
      · refine ⟨_, rfl, c, rfl, _, _, rfl, rfl, ⟨by decide, by decide, by decide⟩, _, _, rfl, rfl, _, rfl, ite2 (fun hc => ?_) (fun hc => ?_)⟩
        · refine ⟨_, rfl, c, rfl, rfl, _, ?_, rfl⟩
          split <;> omega
        · exact ⟨rfl, _, Int.le_refl 0, rfl⟩
      · rintro σ' H2 ⟨rfl, far, hf, rfl⟩
        have m1 : 0 ≤ c % 2305843009213693951 := Int.emod_nonneg _ (by decide)
        have m2 : c % 2305843009213693951 < 2305843009213693951 := Int.emod_lt_of_pos _ (by decide)
        refine ⟨_, rfl, _, rfl, _, _, rfl, rfl, (by show (0 : Int) < 2305843009213693951; decide), _, rfl, _, _, rfl, rfl, .inl ⟨by decide, by decide⟩, _, _, rfl, rfl, _, _, rfl, rfl, _, _, rfl, rfl, .inr ⟨by decide, by decide⟩, _, _, rfl, rfl, (by show (0 : Int) < 2305843009213693951; decide), ?_⟩
        refine ⟨by show 3 ≤ sizeLine; decide, fun p hp => k _ p (same_upd hp) hp ⟨_, _, _, upd_same, hf, Int.emod_nonneg _ (by decide), Int.emod_lt_of_pos _ (by decide), Int.le_refl 0, Int.le_refl 0⟩⟩
theorem scTake : FnScope ["_law_bag_here", "_law_many", "_law_digit", "_law_mixed"] ["_law_bag_here", "_law_many"] (C8.fnScope sTake) := C8.fnScope_by (by decide +kernel)
theorem ok_take (D : C8.Def K mg "_law_take" sTake f fd) (b : Binds K fd ["_law_bag_here", "_law_many"] []) : C8.Cal P w K mg base 1 "_law_take" spTake [] := by
  refine C8.cal0 D b .nil scTake (fun vs H Q E h => ?_) (fun cdv A outer s H vs Q E hr h => ?_)
  · obtain ⟨b, m, n, rfl, _⟩ := h
    rfl
  · obtain ⟨b, m, n, rfl, ⟨far, seed, c, hb, h1, h2, h3, h4, h5⟩, hn, m1, m2, k⟩ := h
    refine ⟨_, pss_cons (ps_if (pt_cmpR op_gt (pe_ix ix_list (pv 0) pe_int (fun _ _ => rfl)) pe_int (nomark _))
        (pss_cons (ps_set (i := 2) scTake.nd rfl (Or.inl rfl) (pe_op op_mod (pe_ix ix_list (pv 0) pe_int (fun _ _ => rfl)) (pv 1)))
        (pss_cons (ps_asg (pe_op op_fdivN (pe_ix ix_list (pv 0) pe_int (fun _ _ => rfl)) (pv 1)) (pg_sub (pv 0) pe_int set_list))
        (pss_one (ps_ret (pv 2))))) pss_nil)
      (pss_cons (ps_asg (pe_op op_add (pe_ix ix_list (pv 0) pe_int (fun _ _ => rfl)) pe_int) (pg_sub (pv 0) pe_int set_list))
      (pss_cons (ps_set (i := 3) scTake.nd rfl (Or.inl rfl) (pe_op op_mod (pe_op op_pow (pe_op op_add (pe_ix ix_list (pv 0) pe_int (fun _ _ => rfl)) (pe_op op_mul pe_int (pe_ix ix_list (pv 0) pe_int (fun _ _ => rfl)))) pe_int) pe_int))
      (pss_cons (ps_set (i := 3) scTake.nd rfl (Or.inl rfl) (pe_op op_mod (pe_op op_pow (pe_op op_add (pv 3) (pe_op op_mul pe_int (pe_ix ix_list (pv 0) pe_int (fun _ _ => rfl)))) pe_int) pe_int))
      (pss_one (ps_ret (pe_op op_mod (pe_op op_fdivN (pv 3) pe_int) (pv 1))))))), ?_⟩
    have i0 : ∀ {x y z : V}, atI [x, y, z] 0 = some x := fun {x y z} => atI_nat (j := 0) rfl
    have i1 : ∀ {x y z : V}, atI [x, y, z] 1 = some y := fun {x y z} => atI_nat (j := 1) rfl
    have i2 : ∀ {x y z : V}, atI [x, y, z] 2 = some z := fun {x y z} => atI_nat (j := 2) rfl
    have but : ∀ xs, But b H (upd H b (.lst xs)) := fun xs a o e ne => by rw [upd_ne ne]; exact e
    refine ⟨_, rfl, b, _, _, _, rfl, rfl, SqL.of hb, i0, _, _, rfl, rfl, _, rfl, ite2 (fun hc => ?_) (fun hc => ?_)⟩
    · refine ⟨_, rfl, b, _, _, _, rfl, rfl, SqL.of hb, i0, _, rfl, _, _, rfl, rfl, (by show 0 < m; omega), ?_⟩
      refine ⟨_, rfl, b, _, _, _, rfl, rfl, SqL.of hb, i0, _, rfl, _, _, rfl, rfl, ⟨by omega, by omega⟩, _, rfl, b, _, _, 0, rfl, rfl, hb, rfl, ?_⟩
      refine ⟨_, rfl, k _ _ ⟨far.fdiv m, seed, c, upd_same, ?_, h2, h3, h4, by omega⟩ (but _) (Int.emod_nonneg _ (by omega)) (Int.emod_lt_of_pos _ (by omega))⟩
      rw [Int.fdiv_eq_ediv_of_nonneg _ (by omega)]
      exact Int.ediv_nonneg h1 (by omega)
    · refine ⟨_, rfl, b, _, _, _, rfl, rfl, SqL.of hb, i2, _, _, rfl, rfl, _, rfl, b, _, _, 2, rfl, rfl, hb, rfl, ?_⟩
      have hb2 : (upd H b (.lst ([V.int far, V.int seed, V.int c].set 2 (V.int (c + 1))))) b = some (.lst [.int far, .int seed, .int (c + 1)]) := upd_same
      refine ⟨_, rfl, b, _, _, _, rfl, rfl, SqL.of hb2, i1, _, rfl, b, _, _, _, rfl, rfl, SqL.of hb2, i2, _, _, rfl, rfl, .inl ⟨by decide, by decide⟩, _, _, rfl, rfl, _, _, rfl, rfl, ⟨by decide, by decide, by omega⟩, _, _, rfl, rfl, (by show (0 : Int) < 2305843009213693921; decide), ?_⟩
      have q1 : 0 ≤ (seed + 1000159 * (c + 1)) ^ (3 : Int).toNat % 2305843009213693921 := Int.emod_nonneg _ (by decide)
      have q2 : (seed + 1000159 * (c + 1)) ^ (3 : Int).toNat % 2305843009213693921 < 2305843009213693921 := Int.emod_lt_of_pos _ (by decide)
      generalize (seed + 1000159 * (c + 1)) ^ (3 : Int).toNat % 2305843009213693921 = x1 at q1 q2 ⊢
      refine ⟨_, rfl, _, rfl, b, _, _, _, rfl, rfl, SqL.of hb2, i2, _, _, rfl, rfl, .inl ⟨by decide, by decide⟩, _, _, rfl, rfl, _, _, rfl, rfl, ⟨by decide, by decide, by omega⟩, _, _, rfl, rfl, (by show (0 : Int) < 2305843009213693951; decide), ?_⟩
      refine ⟨_, rfl, _, _, rfl, rfl, ⟨by decide, by decide⟩, _, rfl, _, _, rfl, rfl, (by show 0 < m; omega), ?_⟩
      exact k _ _ ⟨far, seed, c + 1, hb2, h1, h2, h3, by omega, by omega⟩ (but _) (Int.emod_nonneg _ (by omega)) (Int.emod_lt_of_pos _ (by omega))
theorem forms_make {z : Str} (h : z ∈ forms3) {j : Nat} (hj : j < 2) : ∃ c : Nat, (("xy" : Str).cps.toList)[j]? = some c ∧ z ++ ⟨#[c]⟩ ∈ forms6 ∧ z.length = 1 := by
  have q : (forms3.all fun z => [120, 121].all fun c => decide (z ++ ⟨#[c]⟩ ∈ forms6) && decide (z.length = 1)) = true := by decide +kernel
  have e : ("xy" : Str).cps.toList = [120, 121] := by decide +kernel
  rw [e]
  have hc : ([120, 121] : List Nat)[j]? = some ([120, 121] : List Nat)[j] := List.getElem?_eq_getElem hj
  have q2 := List.all_eq_true.mp (List.all_eq_true.mp q z h) _ (List.getElem_mem (l := ([120, 121] : List Nat)) hj)
  rw [Bool.and_eq_true, decide_eq_true_eq, decide_eq_true_eq] at q2
  exact ⟨_, hc, q2⟩
theorem scSet : FnScope ["_law_bag_here", "_law_many", "_law_form", "_law_found", "_law_turn"] ["_law_bag_here", "_law_many", "_law_form"] (C8.fnScope sSet) := C8.fnScope_by (by decide +kernel)
theorem ok_set (D : C8.Def K mg "_law_set" sSet f fd) (b : Binds K fd ["_law_bag_here", "_law_many", "_law_form"] []) (T : TxtL K mg C) (cT : C8.Cal P w K mg base 1 "_law_take" spTake []) (cI : C8.Mak P w K mg base 6 "FormSet" C (spInit K C) []) :
    C8.Cal P w K mg base 8 "_law_set" (spSet C) [] := by
  refine C8.cal0 D b .nil scSet (fun vs H Q E h => ?_) (fun cdv A outer s H vs Q E hr h => ?_)
  · obtain ⟨b, m, n, z, rfl, _⟩ := h
    rfl
  · obtain ⟨b, m, n, z, rfl, hb, hn, m1, m2, hz, k⟩ := h
    refine ⟨_, pss_cons (ps_set (i := 3) scSet.nd rfl (Or.inl rfl) (pe_lst pa_nil))
      (pss_cons (ps_for PassesOwn.never rfl (pi_range1 rfl T.range (pa_cons (C8.pe_c cT hr (by decide) (by rfl) (pa_cons (pv 0) (pa_cons (pe_op op_add (pv 1) pe_int) pa_nil))) pa_nil)) (pg_name (i := 4) scSet.nd rfl (Or.inl rfl))
        (pss_one (ps_expr (pe_bm PySem.F.plainAttrs_list PySem.F.slot_list_append PySem.F.type_list_append mt_append (pv 3) (pa_cons (pe_tup (pa_cons (C8.pe_c cT hr (by decide) (by rfl) (pa_cons (pv 0) (pa_cons (pv 1) pa_nil)))
          (pa_cons (pe_op op_add_str (pv 2) (pe_ix ix_str pe_str (C8.pe_c cT hr (by decide) (by rfl) (pa_cons (pv 0) (pa_cons pe_int pa_nil))) (fun _ _ => rfl))) pa_nil))) pa_nil)))))
      (pss_one (ps_ret (C8.pe_mk cI hr (by decide) (by rfl) (pa_cons (pv 3) pa_nil))))), ?_⟩
    refine ⟨by decide, fun l hl => ?_⟩
    have s1 : Same H (upd H l (.lst [])) := same_upd hl
    obtain ⟨bs, hbs⟩ := hb.is
    have nlb : l ≠ b := fun e => by
      rw [e, hbs] at hl
      cases hl
    refine ⟨_, rfl, _, rfl, _, _, rfl, rfl, b, m + 2, n, rfl, hb.but s1, by omega, by omega, by omega, fun H2 r hb2 f2 r0 r1 => ?_⟩
    refine ⟨r, rfl, by omega, by omega, for_range (lo := 0) (n := r.toNat) (fun i σ H3 => ∃ xs ps v, σ = [some (.ref b), some (.int m), some (.str z), some (.ref l), v] ∧ H3 l = some (.lst xs) ∧ PairsAt H3 xs ps ∧ Goods ps ∧ xs.length = i ∧ BagAt H3 b (n + 1 + 2 * i) ∧ (∀ a o, H a = some o → a ≠ b → H3 a = some o) ∧ i ≤ r.toNat)
      ⟨[], [], none, rfl, f2 _ _ upd_same nlb, .nil, (fun p hp => by cases hp), rfl, by rw [show n + 1 + 2 * ((0 : Nat) : Int) = n + 1 by omega]; exact hb2, (fun a o e ne => f2 _ _ (s1 _ _ e) ne), Nat.zero_le _⟩ ?_ ?_⟩
    · rintro i σ H3 hi ⟨xs, ps, v, rfl, hL, hp, hg, hlen, hb3, fr, hle⟩
      refine ⟨_, rfl, .inl ⟨rfl, _, SqL.of hL⟩, ?_⟩
      refine ⟨_, rfl, _, rfl, b, m, _, rfl, hb3, by omega, by omega, by omega, fun H4 a1 hb4 f4 a10 a11 => ?_⟩
      refine ⟨_, rfl, _, rfl, b, 2, _, rfl, hb4, by omega, by omega, by omega, fun H5 a2 hb5 f5 a20 a21 => ?_⟩
      obtain ⟨c, hc1, hc2, hc3⟩ := forms_make hz (j := a2.toNat) (by omega)
      refine ⟨_, _, c, rfl, rfl, by decide +kernel, ?_, z, ⟨#[c]⟩, rfl, rfl, by rw [hc3]; show 1 + 1 ≤ sizeLine; decide, ?_⟩
      · have e : a2 = ((a2.toNat : Nat) : Int) := by omega
        rw [e]
        exact atI_nat hc1
      refine ⟨by show 2 ≤ sizeLine; decide, fun t ht => ?_⟩
      have s6 : Same H5 (upd H5 t (.tup [.int a1, .str (z ++ ⟨#[c]⟩)])) := same_upd ht
      have hL5 : H5 l = some (.lst xs) := f5 _ _ (f4 _ _ hL nlb) nlb
      have hL6 := s6 _ _ hL5
      refine ⟨l, xs, _, rfl, rfl, hL6, small1000 (by omega), ?_⟩
      have ntl : t ≠ l := fun e => by
        rw [e, hL5] at ht
        cases ht
      obtain ⟨bs3, hbs3⟩ := hb3.is
      obtain ⟨bs4, hbs4⟩ := hb4.is
      have kp : Keep H3 (upd (upd H5 t (.tup [.int a1, .str (z ++ ⟨#[c]⟩)])) l (.lst (xs ++ [.ref t]))) := ((f4.keep hbs3).trans (f5.keep hbs4)).trans ((keep_of s6).trans (keep_lst hL6))
      have ea : a1 = ((a1.toNat : Nat) : Int) := by omega
      refine ⟨xs ++ [.ref t], ps ++ [(a1.toNat, z ++ ⟨#[c]⟩)], _, rfl, upd_same, ?_, ?_, ?_, ?_, fun a o e ne => ?_, hi⟩
      · refine (hp.keep kp).app (.cons ⟨t, rfl, ?_⟩ .nil)
        rw [upd_ne ntl, upd_same]
        show some (HO.tup [V.int a1, V.str (z ++ ⟨#[c]⟩)]) = some (HO.tup [V.int ((a1.toNat : Nat) : Int), V.str (z ++ ⟨#[c]⟩)])
        rw [← ea]
      · intro p hp'
        rcases List.mem_append.mp hp' with q | q
        · exact hg p q
        · rw [List.mem_singleton.mp q]
          exact ⟨by show a1.toNat < 9; omega, hc2⟩
      · rw [List.length_append, hlen]
        rfl
      · obtain ⟨far, seed, kk, q1, q2, q3, q4, q5, q6⟩ := hb5
        refine ⟨far, seed, kk, ?_, q2, q3, q4, q5, by omega⟩
        rw [upd_ne (Ne.symm nlb)]
        exact s6 _ _ q1
      · rw [upd_ne (ne_of_none e hl)]
        exact s6 _ _ (f5 _ _ (f4 _ _ (fr a o e ne) ne) ne)
    · rintro σ H3 ⟨xs, ps, v, rfl, hL, hp, hg, hlen, hb3, fr, hle⟩
      refine ⟨_, rfl, ?_⟩
      refine make_ok (.inl hL) hp hg (by omega) fun H4 r2 s4 fs => k H4 r2 _ ?_ (fun a o e ne => s4 _ _ (fr a o e ne)) fs
      obtain ⟨far, seed, kk, q1, q2, q3, q4, q5, q6⟩ := hb3
      exact ⟨far, seed, kk, s4 _ _ q1, q2, q3, q4, q5, by omega⟩
end
end K5

/-! Expressions over three sets, pairs of them, the list of pairs. -/
namespace K5
open PySem PySem.Spec PyProof.Rows L2
/-- all that the law's equations call -/
structure Api (P : Program) (w : World) (K : PySem.W.Frag) (mg : Str → Option Value) (base : Heap) (C : Addr) : Prop where
  T : TxtL K mg C
  cO : C8.Met P w K mg base 8 C "__or__" (spBin C orG) []
  cS : C8.Met P w K mg base 8 C "__sub__" (spBin C subG) []
  cX : C8.Met P w K mg base 9 C "__xor__" (spBin C xorG) []
  cA : C8.Met P w K mg base 9 C "__and__" (spBin C andG) []
  cK : C8.Met P w K mg base 8 C "kept" (spBin C keptG) []
  cL : C8.Met P w K mg base 1 C "__len__" (spLen C) []
  cE : C8.Met P w K mg base 1 C "__eq__" (spEq C) []
  cQ : C8.Met P w K mg base 1 C "equals" (spEquals C) []
  cJ : ∃ f, Meth K C "joined" f ∧ FnR P w K mg base C8.CX0 9 f (spJ2 C)
  cI : ∃ a, C8.Mak P w K mg base 6 "FormSet" C (spInit K C) [.ref a] ∧ ∀ H, Given K H a []
/-- three sets in the slots 0, 1, 2 -/
def En (C : Addr) (σ : L2.St) (H : Hp) (g1 g2 g3 : G) : Prop :=
  (∃ x, σ[0]? = some (some (.ref x)) ∧ FS C H x g1) ∧ (∃ x, σ[1]? = some (some (.ref x)) ∧ FS C H x g2) ∧ ∃ x, σ[2]? = some (some (.ref x)) ∧ FS C H x g3
theorem En.keep {C : Addr} {σ : L2.St} {H H' : Hp} {g1 g2 g3 : G} (e : En C σ H g1 g2 g3) (k : Keep H H') : En C σ H' g1 g2 g3 := by
  obtain ⟨⟨x, a1, a2⟩, ⟨y, b1, b2⟩, z, c1, c2⟩ := e
  exact ⟨⟨x, a1, a2.keep k⟩, ⟨y, b1, b2.keep k⟩, z, c1, c2.keep k⟩
theorem En.same {C : Addr} {σ : L2.St} {H H' : Hp} {g1 g2 g3 : G} (e : En C σ H g1 g2 g3) (k : Same H H') : En C σ H' g1 g2 g3 := e.keep (keep_of k)
/-- an expression whose value is a set: F of the three -/
def SE (X : Cx) (C : Addr) (e : Expr) (F : G → G → G → G) : Prop :=
  ∃ t, PE X e t ∧ ∀ σ H g1 g2 g3 Q, En C σ H g1 g2 g3 → (∀ H' r, Same H H' → FS C H' r (F g1 g2 g3) → Q (.ref r) H') → t σ H Q
section
variable {X : Cx} {C : Addr} {j : Nat} {a b : Expr} {F1 F2 : G → G → G → G} {pos apos p0 : Pos}
theorem se_0 {x : Str} (hN : X.N[0]? = some x := by rfl) (hv : Vis X.env.scope x := by first | exact Or.inl rfl | exact Or.inr (Or.inl rfl) | exact Or.inr (Or.inr rfl)) (hd : (x == ("__debug__" : Str)) = false := by decide)
    (hcd : (x == ("__classdict__" : Str)) = false := by decide) : SE X C (.Name x pos) (fun a _ _ => a) :=
  ⟨_, pe_var hN hv hd hcd, fun σ H g1 g2 g3 Q e k => let ⟨x, h1, h2⟩ := e.1; ⟨_, h1, k H x (Same.refl H) h2⟩⟩
theorem se_1 {x : Str} (hN : X.N[1]? = some x := by rfl) (hv : Vis X.env.scope x := by first | exact Or.inl rfl | exact Or.inr (Or.inl rfl) | exact Or.inr (Or.inr rfl)) (hd : (x == ("__debug__" : Str)) = false := by decide)
    (hcd : (x == ("__classdict__" : Str)) = false := by decide) : SE X C (.Name x pos) (fun _ b _ => b) :=
  ⟨_, pe_var hN hv hd hcd, fun σ H g1 g2 g3 Q e k => let ⟨x, h1, h2⟩ := e.2.1; ⟨_, h1, k H x (Same.refl H) h2⟩⟩
theorem se_2 {x : Str} (hN : X.N[2]? = some x := by rfl) (hv : Vis X.env.scope x := by first | exact Or.inl rfl | exact Or.inr (Or.inl rfl) | exact Or.inr (Or.inr rfl)) (hd : (x == ("__debug__" : Str)) = false := by decide)
    (hcd : (x == ("__classdict__" : Str)) = false := by decide) : SE X C (.Name x pos) (fun _ _ c => c) :=
  ⟨_, pe_var hN hv hd hcd, fun σ H g1 g2 g3 Q e k => let ⟨x, h1, h2⟩ := e.2.2; ⟨_, h1, k H x (Same.refl H) h2⟩⟩
theorem se_bin {op : Operator} {m : Str} {n : Nat} {o : G → G → G} (sf : PySem.W.selfFirst X.K C = true) (c : C8.Met X.prog X.w X.K X.mg X.base n C m (spBin C o) []) (hm : PySem.dunder op.info.2 = m) (hr : Room j X.A) (hk : n ≤ j)
    (ha : SE X C a F1) (hb : SE X C b F2) : SE X C (.BinOp a op b pos) (fun a b c => o (F1 a b c) (F2 a b c)) := by
  obtain ⟨ta, pa, ea⟩ := ha
  obtain ⟨tb, pb, eb⟩ := hb
  refine ⟨_, pe_op (op_binM sf c hm hr hk) pa pb, fun σ H g1 g2 g3 Q e k => ?_⟩
  refine ea σ H g1 g2 g3 _ e fun H1 x s1 f1 => ?_
  refine eb σ H1 g1 g2 g3 _ (e.same s1) fun H2 y s2 f2 => ?_
  obtain ⟨d1, a1, o1, _⟩ := (f1.same s2).ins
  obtain ⟨d2, a2, o2, _⟩ := f2.ins
  exact ⟨x, y, d1, d2, _, _, rfl, rfl, o1, o2, x, y, _, _, rfl, f1.same s2, f2, fun H3 r s3 f3 => k H3 r ((s1.trans s2).trans s3) f3⟩
theorem se_or (A : Api X.prog X.w X.K X.mg X.base C) (hr : Room 9 X.A) (ha : SE X C a F1) (hb : SE X C b F2) : SE X C (.BinOp a .BitOr b pos) (fun a b c => orG (F1 a b c) (F2 a b c)) := se_bin A.T.B.sf A.cO rfl hr (by decide) ha hb
theorem se_sub (A : Api X.prog X.w X.K X.mg X.base C) (hr : Room 9 X.A) (ha : SE X C a F1) (hb : SE X C b F2) : SE X C (.BinOp a .Sub b pos) (fun a b c => subG (F1 a b c) (F2 a b c)) := se_bin A.T.B.sf A.cS rfl hr (by decide) ha hb
theorem se_xor (A : Api X.prog X.w X.K X.mg X.base C) (hr : Room 9 X.A) (ha : SE X C a F1) (hb : SE X C b F2) : SE X C (.BinOp a .BitXor b pos) (fun a b c => xorG (F1 a b c) (F2 a b c)) := se_bin A.T.B.sf A.cX rfl hr (by decide) ha hb
theorem se_and (A : Api X.prog X.w X.K X.mg X.base C) (hr : Room 9 X.A) (ha : SE X C a F1) (hb : SE X C b F2) : SE X C (.BinOp a .BitAnd b pos) (fun a b c => andG (F1 a b c) (F2 a b c)) := se_bin A.T.B.sf A.cA rfl hr (by decide) ha hb
theorem nm_kept : (("kept" : Str) == ("forms" : Str)) = false := by decide +kernel
theorem nm_joined : (("joined" : Str) == ("forms" : Str)) = false := by decide +kernel
theorem nm_equals : (("equals" : Str) == ("forms" : Str)) = false := by decide +kernel
/-- the form of a method's call -/
abbrev CallForm (X : Cx) (o : Expr) (m : Str) (apos : Pos) (es : List Expr) (pos : Pos) (pl : Sem Bool) : Prop :=
  eval (.Call (.Attribute o m apos) es [] pos) X.env = (do
      let ov ← eval o X.env
      standAt apos.atName
      let (f, first) ← holding [ov] (getMethod ov m pl)
      callWith pos f first (backTo pos (starEach es X.env)) (backToKw pos (keywordEach [] X.env)))
theorem se_kept {pl : Sem Bool} (A : Api X.prog X.w X.K X.mg X.base C) (hr : Room 9 X.A) (ha : SE X C a F1) (hb : SE X C b F2)
    (hst : starEach [b] X.env = (false, eval b X.env) :: starEach [] X.env := by rfl) (ht : CallForm X a "kept" apos [b] pos pl := by rfl) :
    SE X C (.Call (.Attribute a "kept" apos) [b] [] pos) (fun a b c => keptG (F1 a b c) (F2 a b c)) := by
  obtain ⟨ta, pa, ea⟩ := ha
  obtain ⟨tb, pb, eb⟩ := hb
  refine ⟨_, C8.pe_mt (pl := pl) A.cK hr (by decide) pa (pa_cons pb pa_nil hst) hst rfl ht, fun σ H g1 g2 g3 Q e k => ?_⟩
  refine ea σ H g1 g2 g3 _ e fun H1 x s1 f1 => ?_
  obtain ⟨d1, a1, o1, n1⟩ := f1.ins
  refine ⟨x, d1, a1, rfl, o1, n1 _ nm_kept, ?_⟩
  refine eb σ H1 g1 g2 g3 _ (e.same s1) fun H2 y s2 f2 => ?_
  exact ⟨x, y, _, _, rfl, f1.same s2, f2, fun H3 r s3 f3 => k H3 r ((s1.trans s2).trans s3) f3⟩
theorem se_joined {c : Expr} {F3 : G → G → G → G} {pl : Sem Bool} (A : Api X.prog X.w X.K X.mg X.base C) (hr : Room 9 X.A) (ha : SE X C a F1) (hb : SE X C b F2) (hc : SE X C c F3)
    (hst : starEach [b, c] X.env = (false, eval b X.env) :: starEach [c] X.env := by rfl) (hst2 : starEach [c] X.env = (false, eval c X.env) :: starEach [] X.env := by rfl) (hpl : (backTo pos (starEach [c] X.env)).any (·.1) = false := by rfl) (ht : CallForm X a "joined" apos [b, c] pos pl := by rfl) :
    SE X C (.Call (.Attribute a "joined" apos) [b, c] [] pos) (fun a b c => orG (orG (F1 a b c) (F2 a b c)) (F3 a b c)) := by
  obtain ⟨ta, pa, ea⟩ := ha
  obtain ⟨tb, pb, eb⟩ := hb
  obtain ⟨tc, pc, ec⟩ := hc
  obtain ⟨f, me, F⟩ := A.cJ
  refine ⟨_, pe_methR (E := C8.E0) (pl := pl) pa A.T.B.cl me F hr C8.pass0 (pa_cons pb (pa_cons pc pa_nil hst2) hst) hst hpl ht, fun σ H g1 g2 g3 Q e k => ?_⟩
  refine ea σ H g1 g2 g3 _ e fun H1 x s1 f1 => ?_
  obtain ⟨d1, a1, o1, n1⟩ := f1.ins
  refine ⟨x, d1, a1, rfl, o1, n1 _ nm_joined, ?_⟩
  refine eb σ H1 g1 g2 g3 _ (e.same s1) fun H2 y s2 f2 => ?_
  refine ec σ H2 g1 g2 g3 _ (e.same (s1.trans s2)) fun H3 z s3 f3 => ?_
  exact ⟨x, y, z, _, _, _, rfl, f1.same (s2.trans s3), f2.same s3, f3, fun H4 r s4 f4 => k H4 r (((s1.trans s2).trans s3).trans s4) f4⟩
theorem se_nil (A : Api X.prog X.w X.K X.mg X.base C) (hr : Room 9 X.A) (hg : Gl X "FormSet") : SE X C (.Call (.Name "FormSet" p0) [] [] pos) (fun _ _ _ => nilG) := by
  obtain ⟨a, ⟨f, fd, ps, ds, M, F, hm, b, d⟩, hgv⟩ := A.cI
  refine ⟨_, pe_make0 M F (hr.mono (by decide)) hg hm b d (C8.pass0 (E := C8.E0)), fun σ H g1 g2 g3 Q e k => ?_⟩
  exact make_ok (hgv H) .nil (fun p hp => by cases hp) (by decide) fun H' r s fs => k H' r s fs
/-- a.kept(b) if len(a) < len(b) else b.kept(a) -/
theorem se_less {a b c d : Expr} {F3 F4 : G → G → G → G} {q1 q2 l1 l2 : Pos} (A : Api X.prog X.w X.K X.mg X.base C) (hr : Room 9 X.A) (hg : Gl X "len") (ha : SE X C a F1) (hb : SE X C b F2) (hc : SE X C c F3) (hd : SE X C d F4)
    (hs1 : starEach [a] X.env = (false, eval a X.env) :: starEach [] X.env := by rfl) (hs2 : starEach [b] X.env = (false, eval b X.env) :: starEach [] X.env := by rfl) :
    SE X C (.IfExp (.Compare (.Call (.Name "len" l1) [a] [] q1) [.Lt] [.Call (.Name "len" l2) [b] [] q2] p0) c d pos) (fun x y z => if siz (F1 x y z) < siz (F2 x y z) then F3 x y z else F4 x y z) := by
  obtain ⟨ta, pa, ea⟩ := ha
  obtain ⟨tb, pb, eb⟩ := hb
  obtain ⟨tc, pc, ec⟩ := hc
  obtain ⟨td, pd, ed⟩ := hd
  refine ⟨_, pe_ifExp (pt_cmpR op_lt (pe_callB (call_lenM A.cL hr (by decide)) hg A.T.B.A.len (by decide +kernel) (pa_cons pa pa_nil hs1) (by decide) (by decide) hs1 rfl) (pe_callB (call_lenM A.cL hr (by decide)) hg A.T.B.A.len (by decide +kernel) (pa_cons pb pa_nil hs2) (by decide) (by decide) hs2 rfl) (nomark _)) pc pd, fun σ H g1 g2 g3 Q e k => ?_⟩
  refine ea σ H g1 g2 g3 _ e fun H1 x s1 f1 => ?_
  obtain ⟨d1, a1, o1, n1⟩ := f1.ins
  refine ⟨x, d1, a1, rfl, o1, x, _, rfl, f1, fun H2 s2 => ⟨_, rfl, siz_int _, ?_⟩⟩
  refine eb σ H2 g1 g2 g3 _ (e.same (s1.trans s2)) fun H3 y s3 f3 => ?_
  obtain ⟨d3, a3, o3, n3⟩ := f3.ins
  refine ⟨y, d3, a3, rfl, o3, y, _, rfl, f3, fun H4 s4 => ⟨_, rfl, siz_int _, _, _, rfl, rfl, _, rfl, ?_⟩⟩
  have s5 : Same H H4 := ((s1.trans s2).trans s3).trans s4
  refine ite2 (fun hc => ?_) (fun hc => ?_)
  · have hlt : siz (F1 g1 g2 g3) < siz (F2 g1 g2 g3) := by
      have := of_decide_eq_true hc
      omega
    refine ec σ H4 g1 g2 g3 _ (e.same s5) fun H5 r s6 fs => k H5 r (s5.trans s6) ?_
    show FS C H5 r (if siz (F1 g1 g2 g3) < siz (F2 g1 g2 g3) then F3 g1 g2 g3 else F4 g1 g2 g3)
    rw [if_pos hlt]
    exact fs
  · have hlt : ¬ siz (F1 g1 g2 g3) < siz (F2 g1 g2 g3) := fun q => hc (decide_eq_true (by omega))
    refine ed σ H4 g1 g2 g3 _ (e.same s5) fun H5 r s6 fs => k H5 r (s5.trans s6) ?_
    show FS C H5 r (if siz (F1 g1 g2 g3) < siz (F2 g1 g2 g3) then F3 g1 g2 g3 else F4 g1 g2 g3)
    rw [if_neg hlt]
    exact fs
end
/-! ### pairs, the list of pairs -/
def IsTwo (C : Addr) (R : G → G → Prop) (H : Hp) (v : V) : Prop := ∃ t x y g h, v = .ref t ∧ H t = some (.tup [.ref x, .ref y]) ∧ FS C H x g ∧ FS C H y h ∧ R g h
theorem IsTwo.keep {C : Addr} {R : G → G → Prop} {H H' : Hp} {v : V} (h : IsTwo C R H v) (k : Keep H H') : IsTwo C R H' v := by
  obtain ⟨t, x, y, g, h, e, h1, h2, h3, h4⟩ := h
  exact ⟨t, x, y, g, h, e, k _ _ h1 (by intro xs q; cases q), h2.keep k, h3.keep k, h4⟩
def Due (C : Addr) (R : G → G → Prop) (H : Hp) (l : Addr) (n : Nat) : Prop := ∃ vs, H l = some (.lst vs) ∧ vs.length = n ∧ ∀ v ∈ vs, IsTwo C R H v
theorem Due.same {C : Addr} {R : G → G → Prop} {H H' : Hp} {l : Addr} {n : Nat} (d : Due C R H l n) (s : Same H H') : Due C R H' l n := by
  obtain ⟨vs, h1, h2, h3⟩ := d
  exact ⟨vs, s _ _ h1, h2, fun v hv => (h3 v hv).keep (keep_of s)⟩
/-- a pair (a, b) whose values are in R -/
def PR (X : Cx) (C : Addr) (R : G → G → Prop) (e : Expr) : Prop :=
  ∃ t, PE X e t ∧ ∀ σ H g1 g2 g3 Q, En C σ H g1 g2 g3 → (∀ H' v, Same H H' → IsTwo C R H' v → Q v H') → t σ H Q
section
variable {X : Cx} {C : Addr} {j : Nat} {a b : Expr} {F1 F2 : G → G → G → G} {R : G → G → Prop} {pos apos p0 : Pos}
theorem pr_mk {k : Nat} (ha : SE X C a F1) (hb : SE X C b F2) (hR : ∀ x y z, R (F1 x y z) (F2 x y z))
    (hs : starEach [a, b] X.env = (false, eval a X.env) :: starEach [b] X.env := by rfl) (hs2 : starEach [b] X.env = (false, eval b X.env) :: starEach [] X.env := by rfl) : PR X C R (.Tuple [a, b] k pos) := by
  obtain ⟨ta, pa, ea⟩ := ha
  obtain ⟨tb, pb, eb⟩ := hb
  refine ⟨_, pe_tup (pa_cons pa (pa_cons pb pa_nil hs2) hs), fun σ H g1 g2 g3 Q e k => ?_⟩
  refine ea σ H g1 g2 g3 _ e fun H1 x s1 f1 => ?_
  refine eb σ H1 g1 g2 g3 _ (e.same s1) fun H2 y s2 f2 => ?_
  refine ⟨by show 2 ≤ sizeLine; decide, fun p hp => ?_⟩
  have s3 : Same H2 (upd H2 p (.tup [.ref x, .ref y])) := same_upd hp
  exact k _ _ ((s1.trans s2).trans s3) ⟨p, x, y, _, _, rfl, upd_same, f1.same (s2.trans s3), f2.same s3, hR _ _ _⟩
/-- the slots of the three sets and of the list -/
abbrev st4 (x1 x2 x3 l : Addr) : L2.St := [some (.ref x1), some (.ref x2), some (.ref x3), some (.ref l), none, none]
/-- a block behind which True is handed back, from n pairs -/
def BL (X : Cx) (C : Addr) (R : G → G → Prop) (n : Nat) (sts : List Stmt) : Prop :=
  ∃ t, PSs X sts t ∧ ∀ (D : Ends) x1 x2 x3 l H g1 g2 g3, FS C H x1 g1 → FS C H x2 g2 → FS C H x3 g3 → Due C R H l n → (∀ H', But l H H' → D.rt (.bl true) H') → t D (st4 x1 x2 x3 l) H
theorem en4 {H : Hp} {x1 x2 x3 l : Addr} {g1 g2 g3 : G} (h1 : FS C H x1 g1) (h2 : FS C H x2 g2) (h3 : FS C H x3 g3) : En C (st4 x1 x2 x3 l) H g1 g2 g3 := ⟨⟨x1, rfl, h1⟩, ⟨x2, rfl, h2⟩, x3, rfl, h3⟩
theorem due_snoc {H : Hp} {l : Addr} {n : Nat} {vs : List V} {v : V} (h1 : H l = some (.lst vs)) (h2 : vs.length = n) (h3 : ∀ v ∈ vs, IsTwo C R H v) (h4 : IsTwo C R H v) : Due C R (upd H l (.lst (vs ++ [v]))) l (n + 1) := by
  have k := keep_lst (ys := vs ++ [v]) h1
  refine ⟨_, upd_same, by rw [List.length_append, h2]; rfl, fun u hu => ?_⟩
  rcases List.mem_append.mp hu with q | q
  · exact (h3 u q).keep k
  · rw [List.mem_singleton.mp q]
    exact h4.keep k
/-- due.append((a, b)) -/
theorem bl_app {n k : Nat} {x : Str} {tpos dpos spos cpos : Pos} {rest : List Stmt} (hp : PR X C R (.Tuple [a, b] k tpos)) (hr : BL X C R (n + 1) rest) (hn : n ≤ 100) (hN : X.N[3]? = some x := by rfl)
    (hv : Vis X.env.scope x := by first | exact Or.inl rfl | exact Or.inr (Or.inl rfl) | exact Or.inr (Or.inr rfl)) (hd : (x == ("__debug__" : Str)) = false := by decide) (hcd : (x == ("__classdict__" : Str)) = false := by decide)
    (hbase : attributeBase (.Name x dpos) "append" X.env (eval (.Name x dpos) X.env) = eval (.Name x dpos) X.env := by rfl) (hline : (apos.endLine == cpos.line) = true := by rfl) :
    BL X C R n (.Expr (.Call (.Attribute (.Name x dpos) "append" apos) [.Tuple [a, b] k tpos] [] cpos) spos :: rest) := by
  obtain ⟨tp, pp, ep⟩ := hp
  obtain ⟨tr, pr, er⟩ := hr
  refine ⟨_, pss_cons (ps_expr (pe_bm PySem.F.plainAttrs_list PySem.F.slot_list_append PySem.F.type_list_append mt_append (pe_var (i := 3) hN hv hd hcd) (pa_cons pp pa_nil) hbase (by rfl) hline)) pr, fun D x1 x2 x3 l H g1 g2 g3 h1 h2 h3 hd k => ?_⟩
  obtain ⟨vs, d1, d2, d3⟩ := id hd
  refine ⟨_, rfl, .inl ⟨rfl, _, SqL.of d1⟩, ?_⟩
  refine ep _ H g1 g2 g3 _ (en4 h1 h2 h3) fun H1 v s1 hv => ?_
  refine ⟨l, vs, v, rfl, rfl, s1 _ _ d1, small1000 (by omega), ?_⟩
  have kp : Keep H (upd H1 l (.lst (vs ++ [v]))) := (keep_of s1).trans (keep_lst (s1 _ _ d1))
  refine er D x1 x2 x3 l _ g1 g2 g3 (h1.keep kp) (h2.keep kp) (h3.keep kp) ?_ fun H2 k2 => k H2 fun c o e ne => k2 c o (by rw [upd_ne ne]; exact s1 _ _ e) ne
  exact due_snoc (s1 _ _ d1) d2 (fun u hu => (d3 u hu).keep (keep_of s1)) hv
/-- due = due + [p, q, r] -/
theorem bl_plus {n k1 k2 k3 : Nat} {x : Str} {a1 b1 a2 b2 a3 b3 : Expr} {t1 t2 t3 dpos xpos lpos opos spos : Pos} {rest : List Stmt} (hp1 : PR X C R (.Tuple [a1, b1] k1 t1)) (hp2 : PR X C R (.Tuple [a2, b2] k2 t2)) (hp3 : PR X C R (.Tuple [a3, b3] k3 t3)) (hr : BL X C R (n + 3) rest) (hn : n ≤ 100)
    (hnd : X.N.Nodup) (hN : X.N[3]? = some x := by rfl) (hloc : X.env.scope.names.lookup x = some .local := by rfl) (hd : (x == ("__debug__" : Str)) = false := by decide) (hcd : (x == ("__classdict__" : Str)) = false := by decide) :
    BL X C R n (.Assign [.Name x dpos] (.BinOp (.Name x xpos) .Add (.List [.Tuple [a1, b1] k1 t1, .Tuple [a2, b2] k2 t2, .Tuple [a3, b3] k3 t3] lpos) opos) spos :: rest) := by
  obtain ⟨tp1, pp1, ep1⟩ := hp1
  obtain ⟨tp2, pp2, ep2⟩ := hp2
  obtain ⟨tp3, pp3, ep3⟩ := hp3
  obtain ⟨tr, pr, er⟩ := hr
  refine ⟨_, pss_cons (ps_set (i := 3) hnd hN (.inl hloc) (pe_op op_cat (pe_var (i := 3) hN (.inl hloc) hd hcd) (pe_lst (pa_cons pp1 (pa_cons pp2 (pa_cons pp3 pa_nil))))) (by rfl) (.inr hloc)) pr, fun D x1 x2 x3 l H g1 g2 g3 h1 h2 h3 hd k => ?_⟩
  obtain ⟨vs, d1, d2, d3⟩ := id hd
  refine ⟨_, rfl, ?_⟩
  refine ep1 _ H g1 g2 g3 _ (en4 h1 h2 h3) fun H1 v1 s1 hv1 => ?_
  refine ep2 _ H1 g1 g2 g3 _ ((en4 h1 h2 h3).same s1) fun H2 v2 s2 hv2 => ?_
  refine ep3 _ H2 g1 g2 g3 _ ((en4 h1 h2 h3).same (s1.trans s2)) fun H3 v3 s3 hv3 => ?_
  refine ⟨by show 3 ≤ sizeLine; decide, fun p hp => ?_⟩
  have s4 : Same H3 (upd H3 p (.lst [v1, v2, v3])) := same_upd hp
  have s5 := ((s1.trans s2).trans s3).trans s4
  refine ⟨l, p, vs, _, rfl, rfl, s5 _ _ d1, upd_same, Nat.le_of_lt (small1000 (by rw [d2]; show n + 3 ≤ 1000; omega)), fun q hq => ?_⟩
  have s6 := s5.trans (same_upd (o := .lst (vs ++ [v1, v2, v3])) hq)
  refine er D x1 x2 x3 q _ g1 g2 g3 (h1.same s6) (h2.same s6) (h3.same s6) ⟨_, upd_same, by rw [List.length_append, d2]; rfl, fun u hu => ?_⟩ fun H' k' => k H' fun c o e ne => k' c o (s6 _ _ e) (ne_of_none (s5 _ _ e) hq)
  have s34 := s4.trans (same_upd (o := .lst (vs ++ [v1, v2, v3])) hq)
  rcases List.mem_append.mp hu with m | m
  · exact (d3 u m).keep (keep_of s6)
  · rcases List.mem_cons.mp m with rfl | m
    · exact hv1.keep (keep_of ((s2.trans s3).trans s34))
    · rcases List.mem_cons.mp m with rfl | m
      · exact hv2.keep (keep_of (s3.trans s34))
      · rw [List.mem_singleton.mp m]
        exact hv3.keep (keep_of s34)
/-- due = [p], then the rest -/
theorem bl_start {k : Nat} {x : Str} {tpos dpos lpos spos : Pos} {rest : List Stmt} (hp : PR X C R (.Tuple [a, b] k tpos)) (hr : BL X C R 1 rest) (hnd : X.N.Nodup) (hN : X.N[3]? = some x := by rfl) (hloc : X.env.scope.names.lookup x = some .local := by rfl) :
    ∃ t, PSs X (.Assign [.Name x dpos] (.List [.Tuple [a, b] k tpos] lpos) spos :: rest) t ∧ ∀ (D : Ends) x1 x2 x3 H g1 g2 g3, FS C H x1 g1 → FS C H x2 g2 → FS C H x3 g3 → (∀ H', Same H H' → D.rt (.bl true) H') → t D [some (.ref x1), some (.ref x2), some (.ref x3), none, none, none] H := by
  obtain ⟨tp, pp, ep⟩ := hp
  obtain ⟨tr, pr, er⟩ := hr
  refine ⟨_, pss_cons (ps_set (i := 3) hnd hN (.inl hloc) (pe_lst (pa_cons pp pa_nil)) (by rfl) (.inr hloc)) pr, fun D x1 x2 x3 H g1 g2 g3 h1 h2 h3 k => ?_⟩
  refine ep _ H g1 g2 g3 _ ⟨⟨x1, rfl, h1⟩, ⟨x2, rfl, h2⟩, x3, rfl, h3⟩ fun H1 v s1 hv => ?_
  refine ⟨by show 1 ≤ sizeLine; decide, fun p hp => ?_⟩
  have s2 : Same H1 (upd H1 p (.lst [v])) := same_upd hp
  have s3 := s1.trans s2
  refine er D x1 x2 x3 p _ g1 g2 g3 (h1.same s3) (h2.same s3) (h3.same s3) ⟨_, upd_same, rfl, fun u hu => ?_⟩ fun H' k' => k H' fun c o e => k' c o (s3 _ _ e) (ne_of_none (s1 _ _ e) hp)
  rw [List.mem_singleton.mp hu]
  exact hv.keep (keep_of s2)
end
end K5

/-! _law_equations, _law_keys, _law_turned. -/
namespace K5
open PySem PySem.Spec PyProof.Rows L2
def spTri (C : Addr) : Sp := fun vs H Q _ => ∃ x1 x2 x3 g1 g2 g3, vs = [.ref x1, .ref x2, .ref x3] ∧ FS C H x1 g1 ∧ FS C H x2 g2 ∧ FS C H x3 g3 ∧ ∀ H', Same H H' → Q (.bl true) H'
def spTwo (C : Addr) : Sp := fun vs H Q _ => ∃ x1 x2 g1 g2, vs = [.ref x1, .ref x2] ∧ FS C H x1 g1 ∧ FS C H x2 g2 ∧ ∀ H', Same H H' → Q (.bl true) H'
theorem two_at {C : Addr} {R : G → G → Prop} {H : Hp} {v : V} (h : IsTwo C R H v) : ∃ t x y g h dx dy fs gs, v = .ref t ∧ H t = some (.tup [.ref x, .ref y]) ∧ FS C H x g ∧ FS C H y h ∧ R g h ∧ H x = some (.ins C dx fs) ∧ H y = some (.ins C dy gs) ∧ fs.lookup ("equals" : Str) = none := by
  obtain ⟨t, x, y, g, h, e, h1, h2, h3, h4⟩ := h
  obtain ⟨dx, fs, h5, n⟩ := h2.ins
  obtain ⟨dy, gs, h6, _⟩ := h3.ins
  exact ⟨t, x, y, g, h, dx, dy, fs, gs, e, h1, h2, h3, h4, h5, h6, n _ nm_equals⟩
section
variable {P : Program} {w : World} {K : PySem.W.Frag} {mg : Str → Option Value} {base : Heap} {f C : Addr} {fd : FuncData}
theorem scEqs : FnScope ["_law_a", "_law_b", "_law_c", "_law_due", "_law_one", "_law_other"] ["_law_a", "_law_b", "_law_c"] (C8.fnScope sEqs) := C8.fnScope_by (by decide +kernel)
theorem ok_eqs (D : C8.Def K mg "_law_equations" sEqs f fd) (b : Binds K fd ["_law_a", "_law_b", "_law_c"] []) (Z : Api P w K mg base C) : C8.Cal P w K mg base 10 "_law_equations" (spTri C) [] := by
  refine C8.cal0 D b .nil scEqs (fun vs H Q E h => ?_) (fun cdv A outer s H vs Q E hr h => ?_)
  · obtain ⟨x1, x2, x3, g1, g2, g3, rfl, _⟩ := h
    rfl
  · obtain ⟨x1, x2, x3, g1, g2, g3, rfl, h1, h2, h3, k⟩ := h
    have bl : ∃ t, PSs (cxOf C8.CX0 P w K mg base ["_law_a", "_law_b", "_law_c", "_law_due", "_law_one", "_law_other"] "_law_equations" (C8.fnScope sEqs) f cdv A outer s H E).nox (C8.fnBody sEqs) t ∧
        ∀ (D : Ends) x1 x2 x3 H g1 g2 g3, FS C H x1 g1 → FS C H x2 g2 → FS C H x3 g3 → (∀ H', Same H H' → D.rt (.bl true) H') → t D [some (.ref x1), some (.ref x2), some (.ref x3), none, none, none] H := by
      refine bl_start (R := Eq) (pr_mk (se_or Z hr se_0 (se_sub Z hr se_1 se_0)) (se_or Z hr se_0 se_1) (fun x y z => orG_subG x y))
        (bl_app (pr_mk (se_sub Z hr se_0 (se_sub Z hr se_0 se_1)) (se_kept Z hr se_0 se_1) (fun x y z => subG_subG x y))
        (bl_app (pr_mk (se_or Z hr (se_sub Z hr se_0 se_1) (se_sub Z hr se_1 se_0)) (se_xor Z hr se_0 se_1) (fun x y z => rfl))
        (bl_app (pr_mk (se_or Z hr (se_kept Z hr se_0 se_1) se_0) se_0 (fun x y z => orG_kept x y))
        (bl_app (pr_mk (se_kept Z hr (se_or Z hr se_0 se_1) se_0) se_0 (fun x y z => kept_orG x y))
        (bl_app (pr_mk (se_or Z hr (se_or Z hr se_0 se_1) se_2) (se_or Z hr se_0 (se_or Z hr se_1 se_2)) (fun x y z => orG_assoc x y z))
        (bl_app (pr_mk (se_or Z hr (se_or Z hr se_0 se_1) se_2) (se_joined Z hr se_0 se_1 se_2) (fun x y z => rfl))
        (bl_app (pr_mk (se_kept Z hr (se_kept Z hr se_0 se_1) se_2) (se_kept Z hr se_0 (se_kept Z hr se_1 se_2)) (fun x y z => kept_assoc x y z))
        (bl_app (pr_mk (se_sub Z hr (se_sub Z hr se_0 se_1) se_2) (se_sub Z hr se_0 (se_or Z hr se_1 se_2)) (fun x y z => sub_sub x y z))
        (bl_app (pr_mk (se_sub Z hr (se_or Z hr se_0 se_1) se_2) (se_or Z hr (se_sub Z hr se_0 se_2) (se_sub Z hr se_1 se_2)) (fun x y z => or_sub x y z))
        (bl_app (pr_mk (se_xor Z hr se_0 se_1) (se_xor Z hr se_1 se_0) (fun x y z => xorG_comm x y))
        (bl_app (pr_mk (se_and Z hr se_0 se_1) (se_less Z hr (by rfl) se_0 se_1 (se_kept Z hr se_0 se_1) (se_kept Z hr se_1 se_0)) (fun x y z => rfl))
        (bl_plus (pr_mk (se_and Z hr se_0 se_0) se_0 (fun x y z => andG_self x)) (pr_mk (se_or Z hr se_0 se_0) se_0 (fun x y z => orG_self x)) (pr_mk (se_sub Z hr se_0 se_0) (se_nil Z hr (by rfl)) (fun x y z => subG_self x))
          ?_ (by decide) scEqs.nd) (by decide)) (by decide)) (by decide)) (by decide)) (by decide)) (by decide)) (by decide)) (by decide)) (by decide)) (by decide)) (by decide)) scEqs.nd
      refine ⟨_, pss_one (ps_ret (pe_callB (cr_all rfl) (by rfl) Z.T.B.A.all (by decide +kernel) (pa_cons (pe_lc (own := [("_law_one", 4), ("_law_other", 5)]) (g := gTup K 2 (gCons (gName 4) (gCons (gName 5) gNil))) (tt := tYes)
        (te := tAndV (tOp (rBin C (fun vs H Q E => spEq C (vs ++ []) H Q E) C8.E0) (tVar 4) (tVar 5)) (tNotV (tOp (rNeOwn C (fun vs H Q E => spEq C (vs ++ []) H Q E) C8.E0) (tVar 4) (tVar 5)))) rfl scEqs.nd (pi_list (pv 3))
        (blkOk_by (own := [("_law_one", 4), ("_law_other", 5)]) (N := ["_law_a", "_law_b", "_law_c", "_law_due", "_law_one", "_law_other"]) (sc := C8.fnScope sEqs) (by decide +kernel))
        (fun _ _ _ _ _ => pg_tup rfl (pgs_cons (pg_name (i := 4) scEqs.nd rfl (Or.inl rfl)) (pgs_cons (pg_name (i := 5) scEqs.nd rfl (Or.inl rfl)) pgs_nil))) (fun _ _ _ _ _ => pts_nil)
        (fun _ _ _ _ _ => pe_and (pe_cmpR (op_eqM Z.cE hr (by decide)) (pv 4) (pv 5) (nomark _)) (pe_one (pe_not (pe_cmpR (op_neM Z.T.B.ne Z.T.B.ic.hm Z.cE hr (by decide)) (pv 4) (pv 5) (nomark _)))))) pa_nil))), ?_⟩
      intro D x1 x2 x3 l H g1 g2 g3 h1 h2 h3 hd k
      obtain ⟨vs, d1, d2, d3⟩ := hd
      refine ⟨_, rfl, l, rfl, ⟨_, SqL.of d1⟩, fun L hL => ?_⟩
      have nlL : l ≠ L := ne_of_none d1 hL
      refine lc_any (n := vs.length) (fun i H' => Same H H' ∧ H' L = some (.lst (List.replicate i (V.bl true))) ∧ i ≤ vs.length) ⟨same_upd hL, upd_same, Nat.zero_le _⟩
        (fun i H' hi p => ⟨vs, vs[i], SqL.of (p.1 _ _ d1), List.getElem?_eq_getElem hi⟩) (fun H' p => ⟨vs, SqL.of (p.1 _ _ d1), Nat.le_refl _⟩) (fun i H' v H2 hi p y' => ?_) fun H' p => ?_
      · obtain ⟨p1, p2, p3⟩ := p
        obtain ⟨rfl, y'⟩ := y'
        have hv := y' vs (SqL.of (p1 _ _ d1))
        obtain ⟨t, x, y, g, h, dx, dy, fs, gs, rfl, ht, fx, fy, e, ox, oy, _⟩ := two_at ((d3 v (List.mem_of_getElem? hv)).keep (keep_of p1))
        have e' : g = h := e
        subst e'
        refine ⟨t, _, rfl, SqT.of ht, rfl, _, _, rfl, _, _, rfl, rfl, rfl, ?_⟩
        refine ⟨_, rfl, _, rfl, x, y, dx, dy, fs, gs, rfl, rfl, ox, oy, x, y, g, rfl, fx, fy, fun H3 s3 => ⟨true, rfl, iteT ?_⟩⟩
        refine ⟨_, rfl, _, rfl, x, y, dx, dy, fs, gs, rfl, rfl, s3 _ _ ox, s3 _ _ oy, x, y, g, rfl, fx.same s3, fy.same s3, fun H4 s4 => ⟨true, rfl, false, rfl, ?_⟩⟩
        refine ⟨_, s4 _ _ (s3 _ _ p2), small1000 (by rw [List.length_replicate]; omega), fun b o eb => ?_, ?_, hi⟩
        · rw [upd_ne (ne_of_none eb hL)]
          exact s4 _ _ (s3 _ _ (p1 _ _ eb))
        · rw [upd_same, List.replicate_succ']
          rfl
      · obtain ⟨p1, p2, p3⟩ := p
        refine ⟨L, List.replicate vs.length true, rfl, SqL.of (by rw [List.map_replicate]; exact p2), ?_⟩
        have e : (List.replicate vs.length true).all id = true := by simp
        rw [e]
        exact k H' (but_of p1)
    obtain ⟨t, pt, et⟩ := bl
    exact ⟨t, pt, et _ x1 x2 x3 H g1 g2 g3 h1 h2 h3 k⟩
theorem scKeys : FnScope ["_law_a", "_law_b", "_law_c", "_law_due", "_law_one", "_law_other"] ["_law_a", "_law_b", "_law_c"] (C8.fnScope sKeys) := C8.fnScope_by (by decide +kernel)
theorem ok_keys (D : C8.Def K mg "_law_keys" sKeys f fd) (b : Binds K fd ["_law_a", "_law_b", "_law_c"] []) (Z : Api P w K mg base C) : C8.Cal P w K mg base 10 "_law_keys" (spTri C) [] := by
  refine C8.cal0 D b .nil scKeys (fun vs H Q E h => ?_) (fun cdv A outer s H vs Q E hr h => ?_)
  · obtain ⟨x1, x2, x3, g1, g2, g3, rfl, _⟩ := h
    rfl
  · obtain ⟨x1, x2, x3, g1, g2, g3, rfl, h1, h2, h3, k⟩ := h
    have bl : ∃ t, PSs (cxOf C8.CX0 P w K mg base ["_law_a", "_law_b", "_law_c", "_law_due", "_law_one", "_law_other"] "_law_keys" (C8.fnScope sKeys) f cdv A outer s H E).nox (C8.fnBody sKeys) t ∧
        ∀ (D : Ends) x1 x2 x3 H g1 g2 g3, FS C H x1 g1 → FS C H x2 g2 → FS C H x3 g3 → (∀ H', Same H H' → D.rt (.bl true) H') → t D [some (.ref x1), some (.ref x2), some (.ref x3), none, none, none] H := by
      refine bl_start (R := Same2) (pr_mk (se_or Z hr se_0 se_1) (se_or Z hr se_1 se_0) (fun x y z => keys1 x y))
        (bl_app (pr_mk (se_and Z hr se_0 se_1) (se_and Z hr se_1 se_0) (fun x y z => keys2 x y))
        (bl_app (pr_mk (se_kept Z hr se_0 se_1) (se_kept Z hr se_1 se_0) (fun x y z => keys3 x y))
        (bl_app (pr_mk (se_and Z hr se_0 (se_or Z hr se_1 se_2)) (se_or Z hr (se_and Z hr se_0 se_1) (se_and Z hr se_0 se_2)) (fun x y z => keys4 x y z))
        (bl_app (pr_mk (se_or Z hr se_0 (se_and Z hr se_1 se_2)) (se_and Z hr (se_or Z hr se_0 se_1) (se_or Z hr se_0 se_2)) (fun x y z => keys5 x y z))
        (bl_app (pr_mk (se_xor Z hr (se_xor Z hr se_0 se_1) se_2) (se_xor Z hr se_0 (se_xor Z hr se_1 se_2)) (fun x y z => keys6 x y z))
        (bl_app (pr_mk (se_xor Z hr (se_xor Z hr se_0 se_1) se_1) se_0 (fun x y z => keys7 x y))
        (bl_app (pr_mk (se_xor Z hr se_0 se_1) (se_sub Z hr (se_or Z hr se_0 se_1) (se_and Z hr se_0 se_1)) (fun x y z => keys8 x y))
          ?_ (by decide)) (by decide)) (by decide)) (by decide)) (by decide)) (by decide)) (by decide)) scKeys.nd
      refine ⟨_, pss_one (ps_ret (pe_callB (cr_all rfl) (by rfl) Z.T.B.A.all (by decide +kernel) (pa_cons (pe_lc (own := [("_law_one", 4), ("_law_other", 5)]) (g := gTup K 2 (gCons (gName 4) (gCons (gName 5) gNil))) (tt := tYes)
        (te := tAndV (tMeth C "equals" (spEquals C) [] C8.E0 (tVar 4) (tCons (tVar 5) tNil)) (tOp rEq (tCB (rLenOwn C (fun vs H Q E => spLen C (vs ++ []) H Q E) C8.E0) (tCons (tVar 4) tNil)) (tCB (rLenOwn C (fun vs H Q E => spLen C (vs ++ []) H Q E) C8.E0) (tCons (tVar 5) tNil)))) rfl scKeys.nd (pi_list (pv 3))
        (blkOk_by (own := [("_law_one", 4), ("_law_other", 5)]) (N := ["_law_a", "_law_b", "_law_c", "_law_due", "_law_one", "_law_other"]) (sc := C8.fnScope sKeys) (by decide +kernel))
        (fun _ _ _ _ _ => pg_tup rfl (pgs_cons (pg_name (i := 4) scKeys.nd rfl (Or.inl rfl)) (pgs_cons (pg_name (i := 5) scKeys.nd rfl (Or.inl rfl)) pgs_nil))) (fun _ _ _ _ _ => pts_nil)
        (fun _ _ _ _ _ => pe_and (C8.pe_mt Z.cQ hr (by decide) (pv 4) (pa_cons (pv 5) pa_nil)) (pe_one (pe_cmpR op_eq (pe_callB (call_lenM Z.cL hr (by decide)) (by rfl) Z.T.B.A.len (by decide +kernel) (pa_cons (pv 4) pa_nil)) (pe_callB (call_lenM Z.cL hr (by decide)) (by rfl) Z.T.B.A.len (by decide +kernel) (pa_cons (pv 5) pa_nil)) (nomark _))))) pa_nil))), ?_⟩
      intro D x1 x2 x3 l H g1 g2 g3 h1 h2 h3 hd k
      obtain ⟨vs, d1, d2, d3⟩ := hd
      refine ⟨_, rfl, l, rfl, ⟨_, SqL.of d1⟩, fun L hL => ?_⟩
      have nlL : l ≠ L := ne_of_none d1 hL
      refine lc_any (n := vs.length) (fun i H' => Same H H' ∧ H' L = some (.lst (List.replicate i (V.bl true))) ∧ i ≤ vs.length) ⟨same_upd hL, upd_same, Nat.zero_le _⟩
        (fun i H' hi p => ⟨vs, vs[i], SqL.of (p.1 _ _ d1), List.getElem?_eq_getElem hi⟩) (fun H' p => ⟨vs, SqL.of (p.1 _ _ d1), Nat.le_refl _⟩) (fun i H' v H2 hi p y' => ?_) fun H' p => ?_
      · obtain ⟨p1, p2, p3⟩ := p
        obtain ⟨rfl, y'⟩ := y'
        have hv := y' vs (SqL.of (p1 _ _ d1))
        obtain ⟨t, x, y, g, h, dx, dy, fs, gs, rfl, ht, fx, fy, e, ox, oy, nq⟩ := two_at ((d3 v (List.mem_of_getElem? hv)).keep (keep_of p1))
        refine ⟨t, _, rfl, SqT.of ht, rfl, _, _, rfl, _, _, rfl, rfl, rfl, ?_⟩
        refine ⟨_, rfl, x, dx, fs, rfl, ox, nq, _, rfl, x, y, g, h, rfl, fx, fy, e, fun H3 s3 => ⟨true, rfl, iteT ?_⟩⟩
        refine ⟨_, rfl, x, dx, fs, rfl, s3 _ _ ox, x, g, rfl, fx.same s3, fun H4 s4 => ⟨_, rfl, siz_int g, ?_⟩⟩
        refine ⟨_, rfl, y, dy, gs, rfl, s4 _ _ (s3 _ _ oy), y, h, rfl, fy.same (s3.trans s4), fun H5 s5 => ⟨_, rfl, siz_int h, rfl, ?_⟩⟩
        have es : siz g = siz h := siz_same e
        refine ⟨_, s5 _ _ (s4 _ _ (s3 _ _ p2)), small1000 (by rw [List.length_replicate]; omega), fun b o eb => ?_, ?_, hi⟩
        · rw [upd_ne (ne_of_none eb hL)]
          exact s5 _ _ (s4 _ _ (s3 _ _ (p1 _ _ eb)))
        · rw [upd_same, List.replicate_succ', es, decide_eq_true rfl]
      · obtain ⟨p1, p2, p3⟩ := p
        refine ⟨L, List.replicate vs.length true, rfl, SqL.of (by rw [List.map_replicate]; exact p2), ?_⟩
        have e : (List.replicate vs.length true).all id = true := by simp
        rw [e]
        exact k H' (but_of p1)
    obtain ⟨t, pt, et⟩ := bl
    exact ⟨t, pt, et _ x1 x2 x3 H g1 g2 g3 h1 h2 h3 k⟩
theorem scTurned : FnScope ["_law_a", "_law_b", "_law_one", "_law_other"] ["_law_a", "_law_b"] (C8.fnScope sTurned) := C8.fnScope_by (by decide +kernel)
theorem ok_turned (D : C8.Def K mg "_law_turned" sTurned f fd) (b : Binds K fd ["_law_a", "_law_b"] []) (Z : Api P w K mg base C) : C8.Cal P w K mg base 10 "_law_turned" (spTwo C) [] := by
  refine C8.cal0 D b .nil scTurned (fun vs H Q E h => ?_) (fun cdv A outer s H vs Q E hr h => ?_)
  · obtain ⟨x1, x2, g1, g2, rfl, _⟩ := h
    rfl
  · obtain ⟨x1, x2, g1, g2, rfl, h1, h2, k⟩ := h
    refine ⟨_, pss_cons (ps_par (i := 2) (j := 3) rfl scTurned.nd rfl rfl (by decide) rfl rfl (pa_cons (pe_op (op_binM Z.T.B.sf Z.cA rfl hr (by decide)) (pv 0) (pv 1)) (pa_cons (pe_op (op_binM Z.T.B.sf Z.cA rfl hr (by decide)) (pv 1) (pv 0)) pa_nil)) (by rfl))
      (pss_cons (ps_if (pt_cmpR op_ne (pe_callB (call_lenM Z.cL hr (by decide)) (by rfl) Z.T.B.A.len (by decide +kernel) (pa_cons (pv 0) pa_nil)) (pe_callB (call_lenM Z.cL hr (by decide)) (by rfl) Z.T.B.A.len (by decide +kernel) (pa_cons (pv 1) pa_nil)) (nomark _))
        (pss_one (ps_ret (pe_cmpR (op_eqM Z.cE hr (by decide)) (pv 2) (pv 3) (nomark _)))) pss_nil)
      (pss_one (ps_ret (pe_and (pe_cmpR (op_eqM Z.cE hr (by decide)) (pv 2) (C8.pe_mt Z.cK hr (by decide) (pv 1) (pa_cons (pv 0) pa_nil)) (nomark _))
        (pe_one (pe_cmpR (op_eqM Z.cE hr (by decide)) (pv 3) (C8.pe_mt Z.cK hr (by decide) (pv 0) (pa_cons (pv 1) pa_nil)) (nomark _))))))), ?_⟩
    obtain ⟨d1, f1, o1, n1⟩ := h1.ins
    obtain ⟨d2, f2, o2, n2⟩ := h2.ins
    refine ⟨_, rfl, _, rfl, x1, x2, d1, d2, _, _, rfl, rfl, o1, o2, x1, x2, g1, g2, rfl, h1, h2, fun H1 r1 s1 q1 => ?_⟩
    refine ⟨_, rfl, _, rfl, x2, x1, d2, d1, _, _, rfl, rfl, s1 _ _ o2, s1 _ _ o1, x2, x1, g2, g1, rfl, h2.same s1, h1.same s1, fun H2 r2 s2 q2 => ?_⟩
    have s12 := s1.trans s2
    refine ⟨_, _, rfl, ?_⟩
    refine ⟨_, rfl, x1, d1, f1, rfl, s12 _ _ o1, x1, g1, rfl, h1.same s12, fun H3 s3 => ⟨_, rfl, siz_int g1, ?_⟩⟩
    refine ⟨_, rfl, x2, d2, f2, rfl, s3 _ _ (s12 _ _ o2), x2, g2, rfl, h2.same (s12.trans s3), fun H4 s4 => ⟨_, rfl, siz_int g2, rfl, _, rfl, ?_⟩⟩
    have s14 := (s12.trans s3).trans s4
    have p1 : FS C H4 r1 (andG g1 g2) := q1.same ((s2.trans s3).trans s4)
    have p2 : FS C H4 r2 (andG g2 g1) := q2.same (s3.trans s4)
    obtain ⟨e1, a1, b1, _⟩ := p1.ins
    obtain ⟨e2, a2, b2, _⟩ := p2.ins
    refine ite2 (fun hc => ?_) (fun hc => ?_)
    · have hne : siz g1 ≠ siz g2 := fun e => by
        rw [e] at hc
        simp at hc
      refine ⟨_, rfl, _, rfl, r1, r2, e1, e2, a1, a2, rfl, rfl, b1, b2, r1, r2, andG g1 g2, rfl, p1, by rw [and_turn hne]; exact p2, fun H5 s5 => k H5 (s14.trans s5)⟩
    · have he : siz g1 = siz g2 := by
        have z : ((siz g1 : Nat) : Int) = ((siz g2 : Nat) : Int) := by simpa using hc
        omega
      have w1 : andG g1 g2 = keptG g2 g1 := and_ge (by omega)
      have w2 : andG g2 g1 = keptG g1 g2 := and_ge (by omega)
      refine ⟨_, rfl, _, rfl, x2, d2, f2, rfl, s14 _ _ o2, n2 _ nm_kept, _, rfl, x2, x1, g2, g1, rfl, h2.same s14, h1.same s14, fun H5 r5 s5 q5 => ?_⟩
      obtain ⟨e5, a5, b5, _⟩ := q5.ins
      refine ⟨r1, r5, e1, e5, a1, a5, rfl, rfl, s5 _ _ b1, b5, r1, r5, keptG g2 g1, rfl, by rw [← w1]; exact p1.same s5, q5, fun H6 s6 => ⟨true, rfl, iteT ?_⟩⟩
      have s16 := (s14.trans s5).trans s6
      refine ⟨_, rfl, _, rfl, x1, d1, f1, rfl, s16 _ _ o1, n1 _ nm_kept, _, rfl, x1, x2, g1, g2, rfl, h1.same s16, h2.same s16, fun H7 r7 s7 q7 => ?_⟩
      obtain ⟨e7, a7, b7, _⟩ := q7.ins
      have s57 := (s5.trans s6).trans s7
      exact ⟨r2, r7, e2, e7, a2, a7, rfl, rfl, s57 _ _ b2, b7, r2, r7, keptG g1 g2, rfl, by rw [← w2]; exact p2.same s57, q7, fun H8 s8 => k H8 ((s16.trans s7).trans s8)⟩
end
end K5

/-! The law. -/
namespace K5
open PySem PySem.Spec PyProof.Rows L2
def spLaw (K : PySem.W.Frag) : Sp := fun vs H Q _ => ∃ (a : Addr) (ns : List Int), vs = [.ref a] ∧ SqL K H a (ns.map V.int) ∧ ns.length ≤ 63 ∧ ∀ H', Q (.bl true) H'
/-- three sets in a list -/
def Three (C : Addr) (H : Hp) (rs : List V) : Prop := ∀ r ∈ rs, ∃ x g, r = .ref x ∧ FS C H x g
theorem Three.keep {C : Addr} {H H' : Hp} {rs : List V} (t : Three C H rs) (k : Keep H H') : Three C H' rs := fun r hr => by
  obtain ⟨x, g, e, f⟩ := t r hr
  exact ⟨x, g, e, f.keep k⟩
theorem at_in {rs : List V} {z : Int} (h0 : 0 ≤ z) (h1 : z < (rs.length : Int)) : ∃ v, atI rs z = some v ∧ v ∈ rs := by
  obtain ⟨n, rfl⟩ := Int.eq_ofNat_of_zero_le h0
  have hl : n < rs.length := by omega
  exact ⟨rs[n], atI_nat (List.getElem?_eq_getElem hl), List.getElem_mem hl⟩
theorem at_469 {z : Int} (h0 : 0 ≤ z) (h1 : z < 3) : ∃ m : Int, atI [V.int 4, V.int 6, V.int 9] z = some (.int m) ∧ 4 ≤ m ∧ m ≤ 9 := by
  obtain ⟨v, h, m⟩ := at_in (rs := [V.int 4, V.int 6, V.int 9]) h0 h1
  have : v = .int 4 ∨ v = .int 6 ∨ v = .int 9 := by simpa using m
  rcases this with rfl | rfl | rfl
  · exact ⟨4, h, by decide, by decide⟩
  · exact ⟨6, h, by decide, by decide⟩
  · exact ⟨9, h, by decide, by decide⟩
section
variable {P : Program} {w : World} {K : PySem.W.Frag} {mg : Str → Option Value} {base : Heap} {f C : Addr} {fd : FuncData}
abbrev nLaw : List Str := ["_law_script", "_law_at", "_law_bag_here", "_law_many", "_law_some", "_law_k", "_law_one", "_law_two", "_law_three", "_law_form"]
theorem scLaw : FnScope nLaw ["_law_script"] (C8.fnScope sLaw) := C8.fnScope_by (by decide +kernel)
theorem ok_law (F : C8.Fun K "law" "law" sLaw f fd) (T : TxtL K mg C) (cB : C8.Cal P w K mg base 1 "_law_bag" (spBag K) []) (cT : C8.Cal P w K mg base 1 "_law_take" spTake []) (cS : C8.Cal P w K mg base 8 "_law_set" (spSet C) [])
    (cE : C8.Cal P w K mg base 10 "_law_equations" (spTri C) []) (cK : C8.Cal P w K mg base 10 "_law_keys" (spTri C) []) (cU : C8.Cal P w K mg base 10 "_law_turned" (spTwo C) []) : FnOk P w K mg base C8.CX0 12 f fd ["_law_script"] (spLaw K) := by
  refine C8.fn0 F scLaw (fun vs H Q E h => ?_) (fun cdv A outer s H vs Q E hr h => ?_)
  · obtain ⟨a, ns, rfl, _⟩ := h
    rfl
  · obtain ⟨a, ns, rfl, hS, hlen, k⟩ := h
    refine ⟨_, pss_cons (ps_for PassesOwn.never rfl (pi_range1 rfl T.range (pa_cons (pe_callB (call_max2 rfl) (by rfl) T.max (by decide +kernel) (pa_cons pe_int (pa_cons (pe_callB (call_min2 rfl) (by rfl) T.min (by decide +kernel) (pa_cons pe_int (pa_cons (pe_callB call_len_seq (by rfl) T.B.A.len (by decide +kernel) (pa_cons (pv 0) pa_nil)) pa_nil))) pa_nil))) pa_nil))
        (pg_name (i := 1) scLaw.nd rfl (Or.inl rfl))
        (pss_cons (ps_set (i := 2) scLaw.nd rfl (Or.inr rfl) (C8.pe_c cB hr (by decide) (by rfl) (pa_cons (pv 0) (pa_cons (pv 1) pa_nil))))
        (pss_cons (ps_set (i := 3) scLaw.nd rfl (Or.inr rfl) (pe_ix ix_list (pe_lst (pa_cons pe_int (pa_cons pe_int (pa_cons pe_int pa_nil)))) (C8.pe_c cT hr (by decide) (by rfl) (pa_cons (pv 2) (pa_cons pe_int pa_nil))) (fun _ _ => rfl)))
        (pss_cons (ps_setLc (i := 4) (own := [("_law_form", 9)]) (g := gName 9) (tt := tYes) (te := tCall (spSet C) [] C8.E0 (tCons (tVar 2) (tCons (tVar 3) (tCons (tVar 9) tNil)))) rfl scLaw.nd rfl rfl (sw_true rfl rfl rfl (by decide +kernel))
          (pi_list (pe_lst (pa_cons pe_str (pa_cons pe_str (pa_cons pe_str pa_nil))))) (blkOk_by (own := [("_law_form", 9)]) (N := nLaw) (sc := C8.fnScope sLaw) (by decide +kernel)) (fun _ _ _ _ _ => pg_name (i := 9) scLaw.nd rfl (Or.inl rfl)) (fun _ _ _ _ _ => pts_nil)
          (fun _ _ _ _ _ => C8.pe_c cS hr (by decide) (by rfl) (pa_cons (pv 2) (pa_cons (pv 3) (pa_cons (pv 9) pa_nil)))))
        (pss_one (ps_for PassesOwn.never rfl (pi_range1 rfl T.range (pa_cons pe_int pa_nil)) (pg_name (i := 5) scLaw.nd rfl (Or.inl rfl))
          (pss_cons (ps_par3 (i := 6) (j := 7) (l := 8) rfl scLaw.nd rfl rfl rfl (by decide) (by decide) (by decide) rfl rfl rfl (pa_cons (pe_ix ix_list (pv 4) (pv 5) (fun _ _ => rfl)) (pa_cons (pe_ix ix_list (pv 4) (pe_op op_mod (pe_op op_add (pv 5) pe_int) pe_int) (fun _ _ => rfl)) (pa_cons (pe_ix ix_list (pv 4) (pe_op op_mod (pe_op op_add (pv 5) pe_int) pe_int) (fun _ _ => rfl)) pa_nil))) (by rfl))
          (pss_cons (ps_if (PW.pt (pw_or (pt_not (pt_val (C8.pe_c cE hr (by decide) (by rfl) (pa_cons (pv 6) (pa_cons (pv 7) (pa_cons (pv 8) pa_nil)))))) (pw_or1 (pt_not (pt_val (C8.pe_c cE hr (by decide) (by rfl) (pa_cons (pv 6) (pa_cons (pv 8) (pa_cons (pv 7) pa_nil))))))))) (pss_one (ps_ret pe_bl)) pss_nil)
          (pss_one (ps_if (PW.pt (pw_or (pt_not (pt_val (C8.pe_c cK hr (by decide) (by rfl) (pa_cons (pv 6) (pa_cons (pv 7) (pa_cons (pv 8) pa_nil)))))) (pw_or1 (pt_not (pt_val (C8.pe_c cU hr (by decide) (by rfl) (pa_cons (pv 6) (pa_cons (pv 7) pa_nil)))))))) (pss_one (ps_ret pe_bl)) pss_nil)))))))))) (pss_one (ps_ret pe_bl)), ?_⟩
    have hS' : ∀ {H' : Hp}, Same H H' → SqL K H' a (ns.map V.int) := fun s => s.seq hS
    have bnd : ∀ n : Nat, (0 : Int) ≤ (if (if (n : Int) < 6 then (n : Int) else 6) > 2 then (if (n : Int) < 6 then (n : Int) else 6) else 2) ∧ (if (if (n : Int) < 6 then (n : Int) else 6) > 2 then (if (n : Int) < 6 then (n : Int) else 6) else 2) ≤ 6 := fun n => by
      by_cases h1 : (n : Int) < 6
      · rw [if_pos h1]
        split <;> omega
      · rw [if_neg h1]
        decide
    have b0 := bnd (ns.map V.int).length
    refine ⟨_, rfl, a, _, rfl, .inl hS, _, _, rfl, _, _, rfl, _, rfl, by omega, by omega, for_range (lo := 0) (fun i σ H' => ∃ v1 v2 v3 v4 v5 v6 v7 v8 v9 : Option V, σ = [some (.ref a), v1, v2, v3, v4, v5, v6, v7, v8, v9] ∧ Same H H')
      ⟨none, none, none, none, none, none, none, none, none, rfl, Same.refl H⟩ ?_ ?_⟩
    · rintro i σ H0 hi ⟨v1, v2, v3, v4, v5, v6, v7, v8, v9, rfl, s0⟩
      have hi6 : i < 100 := by omega
      -- _law_bag_here
      refine ⟨_, rfl, _, rfl, a, ns, i, by rw [Int.zero_add]; rfl, hS' s0, hi6, fun H1 b s1 nb hb => ?_⟩
      -- _law_many
      refine ⟨by show 3 ≤ sizeLine; decide, fun p hp => ?_⟩
      have s2 : Same H1 (upd H1 p (.lst [.int 4, .int 6, .int 9])) := same_upd hp
      obtain ⟨bs, hbs⟩ := hb.is
      have npb : p ≠ b := fun e => by
        rw [e, hbs] at hp
        cases hp
      refine ⟨_, rfl, b, 3, 0, rfl, hb.but s2, by decide, by decide, by decide, fun H2 z hb2 f2 z0 z1 => ?_⟩
      obtain ⟨m, hm, m4, m9⟩ := at_469 z0 z1
      refine ⟨p, _, z, _, rfl, rfl, SqL.of (f2 _ _ upd_same npb), hm, ?_⟩
      -- _law_some
      refine ⟨by show 3 ≤ sizeLine; decide, fun q hq => ?_⟩
      have s3 : Same H2 (upd H2 q (.lst [.str "p", .str "q", .str "r"])) := same_upd hq
      obtain ⟨bs2, hbs2⟩ := hb2.is
      have nqb : q ≠ b := fun e => by
        rw [e, hbs2] at hq
        cases hq
      refine ⟨q, rfl, ⟨_, SqL.of upd_same⟩, fun D hD => ?_⟩
      have nDb : D ≠ b := fun e => by
        rw [e, s3 _ _ hbs2] at hD
        cases hD
      have nqD : q ≠ D := ne_of_none upd_same hD
      have fr0 : ∀ c o, H0 c = some o → c ≠ b := fun c o e => ne_of_none e nb
      refine lc_any (n := 3) (fun j H' => BagAt H' b (1 + 40 * (j : Int)) ∧ But b (upd H2 q (.lst [.str "p", .str "q", .str "r"])) H' ∧ ∃ rs, H' D = some (.lst rs) ∧ rs.length = j ∧ Three C H' rs)
        ⟨by rw [show (1 : Int) + 40 * ((0 : Nat) : Int) = 0 + 1 by omega]; exact (hb2.but s3).but (same_upd hD), but_of (same_upd hD), [], upd_same, rfl, fun r hr => by cases hr⟩
        (fun j H' hj pp => ⟨_, [V.str "p", .str "q", .str "r"][j], SqL.of (pp.2.1 _ _ upd_same nqb), List.getElem?_eq_getElem hj⟩) (fun H' pp => ⟨_, SqL.of (pp.2.1 _ _ upd_same nqb), Nat.le_refl 3⟩) (fun j H' v H3 hj pp y => ?_) fun H' pp => ?_
      · obtain ⟨p1, p2, rs, p3, p4, p5⟩ := pp
        obtain ⟨rfl, y⟩ := y
        have hv := y _ (SqL.of (p2 _ _ upd_same nqb))
        obtain ⟨u, hu, rfl⟩ := List.mem_map.mp (show v ∈ forms3.map V.str from List.mem_of_getElem? hv)
        refine ⟨rfl, ?_⟩
        refine ⟨_, rfl, _, rfl, _, rfl, b, m, _, u, rfl, p1, by omega, m4, m9, hu, fun H4 x g hb4 f4 fs => ?_⟩
        have hD4 := f4 _ _ p3 nDb
        obtain ⟨bs3, hbs3⟩ := p1.is
        refine ⟨rs, hD4, small1000 (by omega), ?_, fun c o e ne => ?_, rs ++ [.ref x], upd_same, by rw [List.length_append, p4]; rfl, fun r hr => ?_⟩
        · obtain ⟨far, seed, kk, q1, q2⟩ := hb4
          refine ⟨far, seed, kk, by rw [upd_ne (Ne.symm nDb)]; exact q1, ?_⟩
          rw [show (1 : Int) + 40 * ((j + 1 : Nat) : Int) = 1 + 40 * (j : Int) + 40 by omega]
          exact q2
        · rw [upd_ne (ne_of_none e hD)]
          exact f4 _ _ (p2 _ _ e ne) ne
        · have kl := keep_lst (ys := rs ++ [.ref x]) hD4
          rcases List.mem_append.mp hr with w | w
          · exact (p5.keep ((f4.keep hbs3).trans kl)) r w
          · rw [List.mem_singleton.mp w]
            exact ⟨x, g, rfl, fs.keep kl⟩
      · obtain ⟨p1, p2, rs, p3, p4, p5⟩ := pp
        have sH : Same H H' := fun c o e => p2 _ _ (s3 _ _ (f2 _ _ (s2 _ _ (s1 _ _ (s0 _ _ e))) (fr0 _ _ (s0 _ _ e)))) (fr0 _ _ (s0 _ _ e))
        -- for _law_k in range(3)
        refine ⟨3, rfl, by decide, by decide, for_range (lo := 0) (n := 3) (fun j σ H5 => ∃ u5 u6 u7 u8 u9 : Option V, σ = [some (.ref a), some (.int (0 + (i : Int))), some (.ref b), some (.int m), some (.ref D), u5, u6, u7, u8, u9] ∧ Same H' H5)
          ⟨_, _, _, _, _, rfl, Same.refl H'⟩ ?_ ?_⟩
        · rintro j σ H5 hj ⟨u5, u6, u7, u8, u9, rfl, s5⟩
          have hD5 := s5 _ _ p3
          have t5 := p5.keep (keep_of s5)
          obtain ⟨r1, a1, e1⟩ := at_in (rs := rs) (z := 0 + (j : Int)) (by omega) (by omega)
          obtain ⟨r2, a2, e2⟩ := at_in (rs := rs) (z := (0 + (j : Int) + 1) % 3) (by omega) (by omega)
          obtain ⟨r3, a3, e3⟩ := at_in (rs := rs) (z := (0 + (j : Int) + 2) % 3) (by omega) (by omega)
          obtain ⟨x1, g1, rfl, f1⟩ := t5 r1 e1
          obtain ⟨x2, g2, rfl, f2⟩ := t5 r2 e2
          obtain ⟨x3, g3, rfl, f3⟩ := t5 r3 e3
          refine ⟨_, rfl, _, rfl, D, _, _, _, rfl, rfl, SqL.of hD5, a1, _, rfl, _, rfl, _, _, rfl, rfl, _, _, rfl, rfl, (by show (0 : Int) < 3; decide), D, _, _, _, rfl, rfl, SqL.of hD5, a2, _, rfl, _, rfl, _, _, rfl, rfl, _, _, rfl, rfl, (by show (0 : Int) < 3; decide), D, _, _, _, rfl, rfl, SqL.of hD5, a3, _, _, _, rfl, ?_⟩
          refine ⟨_, rfl, _, rfl, _, rfl, x1, x2, x3, g1, g2, g3, rfl, f1, f2, f3, fun H6 s6 => ⟨true, rfl, iteF ?_⟩⟩
          refine ⟨_, rfl, _, rfl, _, rfl, x1, x3, x2, g1, g3, g2, rfl, f1.same s6, f3.same s6, f2.same s6, fun H7 s7 => ⟨true, rfl, iteF ?_⟩⟩
          have s67 := s6.trans s7
          refine ⟨_, rfl, _, rfl, _, rfl, x1, x2, x3, g1, g2, g3, rfl, f1.same s67, f2.same s67, f3.same s67, fun H8 s8 => ⟨true, rfl, iteF ?_⟩⟩
          have s68 := s67.trans s8
          refine ⟨_, rfl, _, rfl, x1, x2, g1, g2, rfl, f1.same s68, f2.same s68, fun H9 s9 => ⟨true, rfl, iteF ?_⟩⟩
          exact ⟨_, _, _, _, _, rfl, s5.trans (s68.trans s9)⟩
        · rintro σ H5 ⟨u5, u6, u7, u8, u9, rfl, s5⟩
          exact ⟨_, _, _, _, _, _, _, _, _, rfl, sH.trans s5⟩
    · rintro σ H' _
      exact k H'
end
end K5

/-! What the top has left, and the law over it. -/
namespace K5
open PySem PySem.Spec PyProof.Rows L2
/-- a def of the module stands -/
def DefIn (K : PySem.W.Frag) (x : Str) (st : Stmt) : Prop := ∃ (f : Addr) (oc : Value) (od an : Option Addr) (kV doc pm cd ct : Value) (osl : Array (Option Value)), PySem.W.nsIn K mainGlobals x = some (some (.ref f)) ∧
  K.lookup f = some ⟨oc, od, .func (PySem.W.fnOf x x (C8.fnArgs st) (C8.fnBody st) (C8.fnScope st) .none kV doc pm an cd ct), osl⟩ ∧ PySem.W.codeIn K cd x = true ∧ PySem.W.keepIn K (.ref f) = true
/-- a method of the class stands -/
def MetIn (K : PySem.W.Frag) (C : Addr) (m qual : Str) (st : Stmt) : Prop := ∃ (f : Addr) (oc : Value) (od an : Option Addr) (kV doc pm cd ct : Value) (osl : Array (Option Value)), PySem.W.findIn K (.ref C) m = some (some (.ref f)) ∧ PySem.W.isFn K (.ref f) = true ∧
  K.lookup f = some ⟨oc, od, .func (PySem.W.fnOf m qual (C8.fnArgs st) (C8.fnBody st) (C8.fnScope st) .none kV doc pm an cd ct), osl⟩ ∧ PySem.W.codeIn K cd qual = true ∧ PySem.W.keepIn K (.ref f) = true
/-- __init__ with its default, the empty tuple -/
def InitIn (K : PySem.W.Frag) (C : Addr) : Prop := ∃ (f T t0 : Addr) (oc ocT : Value) (od an odT odZ : Option Addr) (kV doc pm cd ct : Value) (osl slT slZ : Array (Option Value)) (nT nZ : Nat), PySem.W.findIn K (.ref C) "__init__" = some (some (.ref f)) ∧ PySem.W.isFn K (.ref f) = true ∧
  K.lookup f = some ⟨oc, od, .func (PySem.W.fnOf "__init__" "FormSet.__init__" (C8.fnArgs sInit) (C8.fnBody sInit) (C8.fnScope sInit) (.ref T) kV doc pm an cd ct), osl⟩ ∧ PySem.W.codeIn K cd "FormSet.__init__" = true ∧ PySem.W.keepIn K (.ref f) = true ∧
  K.lookup T = some ⟨ocT, odT, .seq #[.ref t0] nT, slT⟩ ∧ K.lookup t0 = some ⟨.type "tuple", odZ, .seq #[] nZ, slZ⟩
section
variable {K : PySem.W.Frag} {x m qual : Str} {st : Stmt} {C f T t0 : Addr} {oc ocT : Value} {od an odT odZ : Option Addr} {kV doc pm cd ct : Value} {osl slT slZ : Array (Option Value)} {nT nZ : Nat}
theorem def_in (a : PySem.W.nsIn K mainGlobals x = some (some (.ref f))) (l : K.lookup f = some ⟨oc, od, .func (PySem.W.fnOf x x (C8.fnArgs st) (C8.fnBody st) (C8.fnScope st) .none kV doc pm an cd ct), osl⟩)
    (c : PySem.W.codeIn K cd x = true) (k : PySem.W.keepIn K (.ref f) = true) : DefIn K x st := ⟨f, oc, od, an, kV, doc, pm, cd, ct, osl, a, l, c, k⟩
theorem met_in (a : PySem.W.findIn K (.ref C) m = some (some (.ref f))) (i : PySem.W.isFn K (.ref f) = true) (l : K.lookup f = some ⟨oc, od, .func (PySem.W.fnOf m qual (C8.fnArgs st) (C8.fnBody st) (C8.fnScope st) .none kV doc pm an cd ct), osl⟩)
    (c : PySem.W.codeIn K cd qual = true) (k : PySem.W.keepIn K (.ref f) = true) : MetIn K C m qual st := ⟨f, oc, od, an, kV, doc, pm, cd, ct, osl, a, i, l, c, k⟩
theorem init_in (a : PySem.W.findIn K (.ref C) "__init__" = some (some (.ref f))) (i : PySem.W.isFn K (.ref f) = true)
    (l : K.lookup f = some ⟨oc, od, .func (PySem.W.fnOf "__init__" "FormSet.__init__" (C8.fnArgs sInit) (C8.fnBody sInit) (C8.fnScope sInit) (.ref T) kV doc pm an cd ct), osl⟩) (c : PySem.W.codeIn K cd "FormSet.__init__" = true) (k : PySem.W.keepIn K (.ref f) = true)
    (t : K.lookup T = some ⟨ocT, odT, .seq #[.ref t0] nT, slT⟩) (z : K.lookup t0 = some ⟨.type "tuple", odZ, .seq #[] nZ, slZ⟩) : InitIn K C := ⟨f, T, t0, oc, ocT, od, an, odT, odZ, kV, doc, pm, cd, ct, osl, slT, slZ, nT, nZ, a, i, l, c, k, t, z⟩
end
section
variable {K : PySem.W.Frag} {mg : Str → Option Value} {h : Heap} {x m qual : Str} {st : Stmt} {C : Addr}
theorem def_of (X : K.In h) (G : h.Ns mainGlobals mg) (d : DefIn K x st) : ∃ f fd, C8.Def K mg x st f fd ∧ fd.defaults = .none := by
  obtain ⟨f, oc, od, an, kV, doc, pm, cd, ct, osl, a, l, c, k⟩ := d
  exact ⟨f, _, ⟨⟨_, _, .none, kV, doc, pm, an, cd, ct, osl, rfl, l, c⟩, PySem.W.mg_of X G a, k⟩, rfl⟩
theorem met_of (d : MetIn K C m qual st) : ∃ f fd, Meth K C m f ∧ C8.Fun K m qual st f fd ∧ fd.defaults = .none := by
  obtain ⟨f, oc, od, an, kV, doc, pm, cd, ct, osl, a, i, l, c, k⟩ := d
  exact ⟨f, _, ⟨a, i, k⟩, ⟨_, _, .none, kV, doc, pm, an, cd, ct, osl, rfl, l, c⟩, rfl⟩
theorem init_of (d : InitIn K C) (mk : PySem.W.makesIn K C = true) (kc : PySem.W.keepIn K (.ref C) = true) : ∃ f fd a ds, Mk K C f ∧ C8.Fun K "__init__" "FormSet.__init__" sInit f fd ∧ Binds K fd ["self", "given"] [] ∧ Binds K fd ["self", "given"] ds ∧ Vals [V.ref a] ds ∧ ∀ H, Given K H a [] := by
  obtain ⟨f, T, t0, oc, ocT, od, an, odT, odZ, kV, doc, pm, cd, ct, osl, slT, slZ, nT, nZ, a, i, l, c, k, lT, lZ⟩ := d
  have FD : FunD K "__init__" "FormSet.__init__" (C8.fnArgs sInit) (C8.fnBody sInit) (C8.fnScope sInit) [V.ref t0] [] f (PySem.W.fnOf "__init__" "FormSet.__init__" (C8.fnArgs sInit) (C8.fnBody sInit) (C8.fnScope sInit) (.ref T) kV doc pm an cd ct) :=
    ⟨⟨oc, od, .ref T, kV, doc, pm, an, cd, ct, osl, rfl, l, c, .inr ⟨by simp, T, _, [.ref t0], nT, rfl, lT, rfl, .cons rfl .nil⟩, .inl rfl⟩, k⟩
  obtain ⟨ds1, v1, b1⟩ := FD.binds1 (ps := ["self", "given"]) 2 1 (by simp) rfl (fun T kV doc pm an cdv ct us its hl hi => match us, its, hl, hi with | [_, _], [_], _, _ => ⟨_, rfl, rfl⟩)
  obtain ⟨ds2, v2, b2⟩ := FD.binds1 (ps := ["self", "given"]) 1 0 (by simp) rfl (fun T kV doc pm an cdv ct us its hl hi => match us, its, hl, hi with | [_], [_], _, _ => ⟨_, rfl, rfl⟩)
  have e1 : ds1 = [] := List.eq_nil_of_length_eq_zero v1.length.symm
  subst e1
  exact ⟨f, _, t0, ds2, ⟨mk, a, i, kc⟩, ⟨_, _, .ref T, kV, doc, pm, an, cd, ct, osl, rfl, l, c⟩, b1, b2, v2, fun H => .inr ⟨rfl, _, #[], nZ, lZ, rfl, rfl, rfl⟩⟩
end
/-- the class and the module's names as the top has left them -/
structure Top1 (K : PySem.W.Frag) (C : Addr) : Prop where
  aC : PySem.W.nsIn K mainGlobals "FormSet" = some (some (.ref C))
  pg : PySem.W.plainGet K C Str.empty = true
  hd : PySem.W.hasDictIn K C = true
  po : PySem.W.plainOver K C = true
  sa : PySem.W.findIn K (.ref C) "__setattr__" = some (some (.builtin "object.__setattr__"))
  mks : PySem.W.makesIn K C = true
  kc : PySem.W.keepIn K (.ref C) = true
  nF : PySem.W.findIn K (.ref C) "forms" = some none
  ha : PySem.W.findIn K (.ref C) "__class__" = some (some (.builtin "object.__class__"))
  hn : PySem.W.specialIn K (.builtin "object.__class__") "__get__" = some (some (.builtin "getset_descriptor.__get__"))
  htk : PySem.W.takesIn K (.builtin "object.__class__") = some true
  hm : PySem.W.mroIn K C (.type "object") = some true
  sf : PySem.W.selfFirst K C = true
  ne : PySem.W.findIn K (.ref C) "__ne__" = some (some (.builtin "object.__ne__"))
def noneOf (K : PySem.W.Frag) (l : List Str) : Prop := ∀ x ∈ l, PySem.W.nsIn K mainGlobals x = some none
theorem noneOf.nil {K : PySem.W.Frag} : noneOf K [] := fun x hx => by cases hx
theorem noneOf.cons {K : PySem.W.Frag} {x : Str} {l : List Str} (h : PySem.W.nsIn K mainGlobals x = some none) (t : noneOf K l) : noneOf K (x :: l) := fun y hy => by
  rcases List.mem_cons.mp hy with rfl | hy
  · exact h
  · exact t y hy
abbrev blts : List Str := ["isinstance", "int", "bool", "str", "tuple", "list", "len", "all", "reversed", "sorted", "abs", "range", "max", "min"]
structure Consts (K : PySem.W.Frag) : Prop where
  longest : ∃ t, PySem.W.nsIn K mainGlobals "LONGEST_NAME" = some (some (.int 4 t))
  most : ∃ t, PySem.W.nsIn K mainGlobals "MOST_KEY" = some (some (.int 999999 t))
  kept : ∃ (t : Addr) (o : Obj) (its : Array Value) (n : Nat), PySem.W.nsIn K mainGlobals "KEPT_WORDS" = some (some (.ref t)) ∧ K.lookup t = some o ∧ o.cls = .type "tuple" ∧ o.data = .seq its n ∧ its.size = 3 ∧ Vals [.str "keys", .str "look", .str "self"] its.toList
theorem con_in {K : PySem.W.Frag} {t1 t2 k1 k2 k3 : Tok} {t : Addr} {od : Option Addr} {n : Nat} {sl : Array (Option Value)} (a : PySem.W.nsIn K mainGlobals "LONGEST_NAME" = some (some (.int 4 t1))) (b : PySem.W.nsIn K mainGlobals "MOST_KEY" = some (some (.int 999999 t2)))
    (c : PySem.W.nsIn K mainGlobals "KEPT_WORDS" = some (some (.ref t))) (l : K.lookup t = some ⟨.type "tuple", od, .seq #[.str "keys" k1, .str "look" k2, .str "self" k3] n, sl⟩) : Consts K :=
  ⟨⟨t1, a⟩, ⟨t2, b⟩, t, _, _, n, c, l, rfl, rfl, rfl, .cons ⟨k1, rfl⟩ (.cons ⟨k2, rfl⟩ (.cons ⟨k3, rfl⟩ .nil))⟩
theorem txt_of {K : PySem.W.Frag} {mg : Str → Option Value} {h : Heap} {C : Addr} (X : K.In h) (G : h.Ns mainGlobals mg) (t : Top1 K C) (z : noneOf K blts) (c : Consts K) : TxtL K mg C := by
  have n : ∀ x ∈ blts, mg x = none := fun x hx => PySem.W.mg_none_of X G (z x hx)
  have A : TxtA K mg := by
    refine ⟨n _ (by simp), n _ (by simp), n _ (by simp), n _ (by simp), n _ (by simp), n _ (by simp), n _ (by simp), n _ (by simp), ?_, ?_, ?_⟩
    · obtain ⟨t, e⟩ := c.longest
      exact ⟨t, PySem.W.mg_of X G e⟩
    · obtain ⟨t, e⟩ := c.most
      exact ⟨t, PySem.W.mg_of X G e⟩
    · obtain ⟨t, o, its, k, e, r⟩ := c.kept
      exact ⟨t, o, its, k, PySem.W.mg_of X G e, r⟩
  have cl : Cls K C := ⟨t.pg, t.hd, t.po, t.sa⟩
  exact ⟨⟨A, cl, t.nF, PySem.W.mg_of X G t.aC, ⟨cl, t.ha, t.hn, t.htk, t.hm, if_pos (beq_self_eq_true _)⟩, t.sf, t.ne, n _ (by simp), n _ (by simp)⟩, n _ (by simp), n _ (by simp), n _ (by simp), n _ (by simp)⟩
/-- all defs -/
structure Defs (K : PySem.W.Frag) (C : Addr) : Prop where
  d1 : DefIn K "is_integer" sInteger
  d2 : DefIn K "in_range" sRange
  d3 : DefIn K "is_letters" sLetters
  d4 : DefIn K "is_name" sName
  d5 : DefIn K "is_key" sKey
  d6 : DefIn K "is_element" sElement
  d7 : DefIn K "check_members" sCheck
  d8 : DefIn K "_law_bag" sBag
  d9 : DefIn K "_law_take" sTake
  d10 : DefIn K "_law_set" sSet
  d11 : DefIn K "_law_equations" sEqs
  d12 : DefIn K "_law_keys" sKeys
  d13 : DefIn K "_law_turned" sTurned
  d14 : DefIn K "law" sLaw
  i : InitIn K C
  m1 : MetIn K C "members" "FormSet.members" sMembers
  m2 : MetIn K C "__contains__" "FormSet.__contains__" sContains
  m3 : MetIn K C "__or__" "FormSet.__or__" sOr
  m4 : MetIn K C "__and__" "FormSet.__and__" sAnd
  m5 : MetIn K C "__sub__" "FormSet.__sub__" sSub
  m6 : MetIn K C "__xor__" "FormSet.__xor__" sXor
  m7 : MetIn K C "joined" "FormSet.joined" sJoined
  m8 : MetIn K C "kept" "FormSet.kept" sKept
  m9 : MetIn K C "equals" "FormSet.equals" sEquals
  m10 : MetIn K C "__len__" "FormSet.__len__" sLen
  m11 : MetIn K C "__eq__" "FormSet.__eq__" sEq
theorem all_mk {P : Program} {w : World} {K : PySem.W.Frag} {h : Heap} {mg : Str → Option Value} {fa C : Addr} (X : K.In h) (G : h.Ns mainGlobals mg) (hfa : mg "law" = some (.ref fa)) (t : Top1 K C) (z : noneOf K blts) (c : Consts K) (d : Defs K C) :
    ∃ fd : FuncData, (∀ (s : Shared) (v : Value), BindsTo s fd ⟨[v], []⟩ [("_law_script", v)]) ∧ ∀ base : Heap, K.In base → base.Ns mainGlobals mg → FnOk P w K mg base C8.CX0 12 fa fd ["_law_script"] (spLaw K) := by
  have T := txt_of X G t z c
  obtain ⟨_, _, D1, e1⟩ := def_of X G d.d1
  obtain ⟨_, _, D2, e2⟩ := def_of X G d.d2
  obtain ⟨_, _, D3, e3⟩ := def_of X G d.d3
  obtain ⟨_, _, D4, e4⟩ := def_of X G d.d4
  obtain ⟨_, _, D5, e5⟩ := def_of X G d.d5
  obtain ⟨_, _, D6, e6⟩ := def_of X G d.d6
  obtain ⟨_, _, D7, e7⟩ := def_of X G d.d7
  obtain ⟨_, _, D8, e8⟩ := def_of X G d.d8
  obtain ⟨_, _, D9, e9⟩ := def_of X G d.d9
  obtain ⟨_, _, D10, e10⟩ := def_of X G d.d10
  obtain ⟨_, _, D11, e11⟩ := def_of X G d.d11
  obtain ⟨_, _, D12, e12⟩ := def_of X G d.d12
  obtain ⟨_, _, D13, e13⟩ := def_of X G d.d13
  obtain ⟨f14, fd14, D14, e14⟩ := def_of X G d.d14
  obtain ⟨_, _, M1, F1, k1⟩ := met_of d.m1
  obtain ⟨_, _, M2, F2, k2⟩ := met_of d.m2
  obtain ⟨_, _, M3, F3, k3⟩ := met_of d.m3
  obtain ⟨_, _, M4, F4, k4⟩ := met_of d.m4
  obtain ⟨_, _, M5, F5, k5⟩ := met_of d.m5
  obtain ⟨_, _, M6, F6, k6⟩ := met_of d.m6
  obtain ⟨_, _, M7, F7, k7⟩ := met_of d.m7
  obtain ⟨_, _, M8, F8, k8⟩ := met_of d.m8
  obtain ⟨_, _, M9, F9, k9⟩ := met_of d.m9
  obtain ⟨_, _, M10, F10, k10⟩ := met_of d.m10
  obtain ⟨_, _, M11, F11, k11⟩ := met_of d.m11
  obtain ⟨_, _, a0, ds, MI, FI, bI1, bI2, vI, gI⟩ := init_of d.i t.mks t.kc
  have b1 := D1.fn.binds e1 (ps := ["thing"]) fun _ _ _ _ _ _ us hl => match us, hl with | [_], _ => rfl
  have b2 := D2.fn.binds e2 (ps := ["thing", "least", "most"]) fun _ _ _ _ _ _ us hl => match us, hl with | [_, _, _], _ => rfl
  have b3 := D3.fn.binds e3 (ps := ["text"]) fun _ _ _ _ _ _ us hl => match us, hl with | [_], _ => rfl
  have b4 := D4.fn.binds e4 (ps := ["thing"]) fun _ _ _ _ _ _ us hl => match us, hl with | [_], _ => rfl
  have b5 := D5.fn.binds e5 (ps := ["thing"]) fun _ _ _ _ _ _ us hl => match us, hl with | [_], _ => rfl
  have b6 := D6.fn.binds e6 (ps := ["thing"]) fun _ _ _ _ _ _ us hl => match us, hl with | [_], _ => rfl
  have b7 := D7.fn.binds e7 (ps := ["items"]) fun _ _ _ _ _ _ us hl => match us, hl with | [_], _ => rfl
  have b8 := D8.fn.binds e8 (ps := ["_law_script", "_law_at"]) fun _ _ _ _ _ _ us hl => match us, hl with | [_, _], _ => rfl
  have b9 := D9.fn.binds e9 (ps := ["_law_bag_here", "_law_many"]) fun _ _ _ _ _ _ us hl => match us, hl with | [_, _], _ => rfl
  have b10 := D10.fn.binds e10 (ps := ["_law_bag_here", "_law_many", "_law_form"]) fun _ _ _ _ _ _ us hl => match us, hl with | [_, _, _], _ => rfl
  have b11 := D11.fn.binds e11 (ps := ["_law_a", "_law_b", "_law_c"]) fun _ _ _ _ _ _ us hl => match us, hl with | [_, _, _], _ => rfl
  have b12 := D12.fn.binds e12 (ps := ["_law_a", "_law_b", "_law_c"]) fun _ _ _ _ _ _ us hl => match us, hl with | [_, _, _], _ => rfl
  have b13 := D13.fn.binds e13 (ps := ["_law_a", "_law_b"]) fun _ _ _ _ _ _ us hl => match us, hl with | [_, _], _ => rfl
  have b14 := D14.fn.binds e14 (ps := ["_law_script"]) fun _ _ _ _ _ _ us hl => match us, hl with | [_], _ => rfl
  have o1 := F1.binds k1 (ps := ["self"]) fun _ _ _ _ _ _ us hl => match us, hl with | [_], _ => rfl
  have o2 := F2.binds k2 (ps := ["self", "key"]) fun _ _ _ _ _ _ us hl => match us, hl with | [_, _], _ => rfl
  have o3 := F3.binds k3 (ps := ["self", "other"]) fun _ _ _ _ _ _ us hl => match us, hl with | [_, _], _ => rfl
  have o4 := F4.binds k4 (ps := ["self", "other"]) fun _ _ _ _ _ _ us hl => match us, hl with | [_, _], _ => rfl
  have o5 := F5.binds k5 (ps := ["self", "other"]) fun _ _ _ _ _ _ us hl => match us, hl with | [_, _], _ => rfl
  have o6 := F6.binds k6 (ps := ["self", "other"]) fun _ _ _ _ _ _ us hl => match us, hl with | [_, _], _ => rfl
  have o8 := F8.binds k8 (ps := ["self", "other"]) fun _ _ _ _ _ _ us hl => match us, hl with | [_, _], _ => rfl
  have o9 := F9.binds k9 (ps := ["self", "other"]) fun _ _ _ _ _ _ us hl => match us, hl with | [_, _], _ => rfl
  have o10 := F10.binds k10 (ps := ["self"]) fun _ _ _ _ _ _ us hl => match us, hl with | [_], _ => rfl
  have o11 := F11.binds k11 (ps := ["self", "other"]) fun _ _ _ _ _ _ us hl => match us, hl with | [_, _], _ => rfl
  have ef : f14 = fa := by
    have q := D14.mgf.symm.trans hfa
    cases q
    rfl
  subst ef
  refine ⟨fd14, fun s v => ?_, fun base _ _ => ?_⟩
  · obtain ⟨oc, od, dV, kV, doc, pm, an, cdv, ct, osl, rfl, lk, hcd⟩ := D14.fn.ex
    have e : dV = .none := e14
    subst e
    exact .of_eq rfl
  · have c1 : C8.Cal P w K mg base 1 "is_integer" spInteger [] := ok_integer D1 b1 T.B.A
    have c2 := ok_range D2 b2 c1
    have c3 := ok_letters (P := P) (w := w) (base := base) D3 b3 T.B.A
    have c4 := ok_name D4 b4 T.B.A c3
    have c5 := ok_key D5 b5 T.B.A c2
    have c6 := ok_element D6 b6 T.B.A c5 c4
    have c7 := ok_check D7 b7 T.B.A c6
    have i1 := ok_init MI FI bI1 .nil T.B c7
    have i2 := ok_init MI FI bI2 vI T.B c7
    have m1 := ok_members (P := P) (w := w) (base := base) M1 F1 o1 T.B
    have m2 := ok_contains M2 F2 o2 T.B c1
    have m3 := ok_or M3 F3 o3 T.B i1 m1
    have m8 := ok_kept M8 F8 o8 T.B i1 m1 m2
    have m5 := ok_sub M5 F5 o5 T.B i1 m1 m2
    have m10 := ok_len (P := P) (w := w) (base := base) M10 F10 o10 T.B
    have m4 := ok_and M4 F4 o4 T.B m8 m10
    have m6 := ok_xor M6 F6 o6 T.B m3 m5
    have m7 := ok_joined F7 k7 T.B m3
    have m9 := ok_equals (P := P) (w := w) (base := base) M9 F9 o9 T.B
    have m11 := ok_eq (P := P) (w := w) (base := base) M11 F11 o11 T.B
    have Z : Api P w K mg base C := ⟨T, m3, m5, m6, m4, m8, m10, m11, m9, ⟨_, M7, m7⟩, a0, i2, gI⟩
    have c8 := ok_bag (P := P) (w := w) (base := base) D8 b8 T
    have c9 := ok_take (P := P) (w := w) (base := base) D9 b9
    have c10 := ok_set D10 b10 T c9 i1
    exact ok_law D14.fn T c8 c9 c10 (ok_eqs D11 b11 Z) (ok_keys D12 b12 Z) (ok_turned D13 b13 Z)
theorem walk {l : PySem.W.OpenLaw} {q : Program} {loose : List Str} {XP : (Str → Option Value) → Heap → Prop} {YP : World → Heap → Prop} {d : DefRec} {K : Params → PySem.W.Frag} (hn : l.most = some 63) (hdf : d.params.defaults = [])
    (hY : ∀ (w : World) (h : Heap), YP w h → (K w.params).In h)
    (F : ∀ (w : World) (mg : Str → Option Value) (fa : Addr) (h : Heap), (K w.params).In h → h.Ns mainGlobals mg → mg d.name = some (.ref fa) →
      ∃ fd : FuncData, (∀ (s : Shared) (u : Value), BindsTo s fd ⟨[u], []⟩ [("_law_script", u)]) ∧ ∀ base : Heap, (K w.params).In base → base.Ns mainGlobals mg → FnOk l.prog w (K w.params) mg base C8.CX0 12 fa fd ["_law_script"] (spLaw (K w.params))) :
    PySem.W.WalkO q loose XP YP l.row.toRowW d [] (fun f vs => PySem.call f vs) :=
  L2.walk_of (n := 63) (k := 12) (x := "_law_script") (CX := fun _ => C8.CX0) (sp := fun w => spLaw (K w.params)) hn (by decide) hdf ⟨rfl, by decide, by decide⟩ hY F (fun _ _ a ns hl _ hS => ⟨a, ns, rfl, hS, hl, fun _ => rfl⟩) fun _ _ _ _ _ z => z
end K5

open PySem PySem.W PyProof.Rows
set_option maxRecDepth 100000 in
set_option maxHeartbeats 0 in
theorem PySem.Challenge.cw_equalunlike_k05_whole_laws_of_sets_with_holds : PySem.Challenge.rw_equalunlike_k05_whole_laws_of_sets_with.Holds := by
  w_on; o_law; k_head; (case hw => w_witness2)
  k_fill
  refine K5.walk (l := PySem.Challenge.rw_equalunlike_k05_whole_laws_of_sets_with) rfl rfl (fun w h Y => PySem.W.kIn_of Y) ?F
  case F =>
    intro w mg fa h KX G hmg
    refine' K5.all_mk KX G hmg ?top ?blt ?con ?dfs
    case top =>
      refine' ⟨?aC, ?pg, ?hd, ?po, ?sa, ?mks, ?kc, ?nF, ?ha, ?hn, ?htk, ?hm, ?sf, ?ne⟩
      (case aC => k_is)
      (case pg => k_is)
      (case hd => k_is)
      (case po => k_is)
      (case sa => k_is)
      (case mks => k_is)
      (case kc => k_is)
      (case nF => k_is)
      (case ha => k_is)
      (case hn => k_is)
      (case htk => k_is)
      (case hm => k_is)
      (case sf => k_is)
      (case ne => k_is)
    case blt =>
      refine' K5.noneOf.cons ?n0 (K5.noneOf.cons ?n1 (K5.noneOf.cons ?n2 (K5.noneOf.cons ?n3 (K5.noneOf.cons ?n4 (K5.noneOf.cons ?n5 (K5.noneOf.cons ?n6 (K5.noneOf.cons ?n7 (K5.noneOf.cons ?n8 (K5.noneOf.cons ?n9 (K5.noneOf.cons ?n10 (K5.noneOf.cons ?n11 (K5.noneOf.cons ?n12 (K5.noneOf.cons ?n13 (K5.noneOf.nil))))))))))))))
      (case n0 => k_is)
      (case n1 => k_is)
      (case n2 => k_is)
      (case n3 => k_is)
      (case n4 => k_is)
      (case n5 => k_is)
      (case n6 => k_is)
      (case n7 => k_is)
      (case n8 => k_is)
      (case n9 => k_is)
      (case n10 => k_is)
      (case n11 => k_is)
      (case n12 => k_is)
      (case n13 => k_is)
    case con =>
      refine' K5.con_in ?c1 ?c2 ?c3 ?c4
      (case c1 => k_is); (case c2 => k_is); (case c3 => k_is); (case c4 => k_is)
    case dfs =>
      refine' ⟨?d1, ?d2, ?d3, ?d4, ?d5, ?d6, ?d7, ?d8, ?d9, ?d10, ?d11, ?d12, ?d13, ?d14, ?i, ?m1, ?m2, ?m3, ?m4, ?m5, ?m6, ?m7, ?m8, ?m9, ?m10, ?m11⟩
      case d1 =>
        refine' K5.def_in ?a ?l ?c ?k
        (case a => k_is); (case l => k_is); (case c => k_is); (case k => k_is)
      case d2 =>
        refine' K5.def_in ?a ?l ?c ?k
        (case a => k_is); (case l => k_is); (case c => k_is); (case k => k_is)
      case d3 =>
        refine' K5.def_in ?a ?l ?c ?k
        (case a => k_is); (case l => k_is); (case c => k_is); (case k => k_is)
      case d4 =>
        refine' K5.def_in ?a ?l ?c ?k
        (case a => k_is); (case l => k_is); (case c => k_is); (case k => k_is)
      case d5 =>
        refine' K5.def_in ?a ?l ?c ?k
        (case a => k_is); (case l => k_is); (case c => k_is); (case k => k_is)
      case d6 =>
        refine' K5.def_in ?a ?l ?c ?k
        (case a => k_is); (case l => k_is); (case c => k_is); (case k => k_is)
      case d7 =>
        refine' K5.def_in ?a ?l ?c ?k
        (case a => k_is); (case l => k_is); (case c => k_is); (case k => k_is)
      case d8 =>
        refine' K5.def_in ?a ?l ?c ?k
        (case a => k_is); (case l => k_is); (case c => k_is); (case k => k_is)
      case d9 =>
        refine' K5.def_in ?a ?l ?c ?k
        (case a => k_is); (case l => k_is); (case c => k_is); (case k => k_is)
      case d10 =>
        refine' K5.def_in ?a ?l ?c ?k
        (case a => k_is); (case l => k_is); (case c => k_is); (case k => k_is)
      case d11 =>
        refine' K5.def_in ?a ?l ?c ?k
        (case a => k_is); (case l => k_is); (case c => k_is); (case k => k_is)
      case d12 =>
        refine' K5.def_in ?a ?l ?c ?k
        (case a => k_is); (case l => k_is); (case c => k_is); (case k => k_is)
      case d13 =>
        refine' K5.def_in ?a ?l ?c ?k
        (case a => k_is); (case l => k_is); (case c => k_is); (case k => k_is)
      case d14 =>
        refine' K5.def_in ?a ?l ?c ?k
        (case a => k_is); (case l => k_is); (case c => k_is); (case k => k_is)
      case i =>
        refine' K5.init_in ?a ?i ?l ?c ?k ?t ?z
        (case a => k_is); (case i => k_is); (case l => k_is); (case c => k_is); (case k => k_is); (case t => k_is); (case z => k_is)
      case m1 =>
        refine' K5.met_in ?a ?i ?l ?c ?k
        (case a => k_is); (case i => k_is); (case l => k_is); (case c => k_is); (case k => k_is)
      case m2 =>
        refine' K5.met_in ?a ?i ?l ?c ?k
        (case a => k_is); (case i => k_is); (case l => k_is); (case c => k_is); (case k => k_is)
      case m3 =>
        refine' K5.met_in ?a ?i ?l ?c ?k
        (case a => k_is); (case i => k_is); (case l => k_is); (case c => k_is); (case k => k_is)
      case m4 =>
        refine' K5.met_in ?a ?i ?l ?c ?k
        (case a => k_is); (case i => k_is); (case l => k_is); (case c => k_is); (case k => k_is)
      case m5 =>
        refine' K5.met_in ?a ?i ?l ?c ?k
        (case a => k_is); (case i => k_is); (case l => k_is); (case c => k_is); (case k => k_is)
      case m6 =>
        refine' K5.met_in ?a ?i ?l ?c ?k
        (case a => k_is); (case i => k_is); (case l => k_is); (case c => k_is); (case k => k_is)
      case m7 =>
        refine' K5.met_in ?a ?i ?l ?c ?k
        (case a => k_is); (case i => k_is); (case l => k_is); (case c => k_is); (case k => k_is)
      case m8 =>
        refine' K5.met_in ?a ?i ?l ?c ?k
        (case a => k_is); (case i => k_is); (case l => k_is); (case c => k_is); (case k => k_is)
      case m9 =>
        refine' K5.met_in ?a ?i ?l ?c ?k
        (case a => k_is); (case i => k_is); (case l => k_is); (case c => k_is); (case k => k_is)
      case m10 =>
        refine' K5.met_in ?a ?i ?l ?c ?k
        (case a => k_is); (case i => k_is); (case l => k_is); (case c => k_is); (case k => k_is)
      case m11 =>
        refine' K5.met_in ?a ?i ?l ?c ?k
        (case a => k_is); (case i => k_is); (case l => k_is); (case c => k_is); (case k => k_is)
