import PyProof.Rows.All
import Wide.All
import OpenK.AllK
import Wide.FinOn
import HandS.ForMost
import HandS.IsInst
import HandS.More
import HandS.Star
import HandS.Style
import HandS.SortRule
import HandS.SortInts
import HandS.SortKw
import HandS.Wide
import HandS.WideBits
import HandS.Zip
import HandS.Walk
import HandS.Flow
import HandS.Small
import HandS.Steps
import KE.SortKeyHeap
import KE.KDictPairs
import KE.GoesEnum
import HandS.RaiseMore
import PySem.Challenge.RW_onescale_k30_whole_pairs_and_least_scale
set_option Elab.async false
set_option linter.all false
/-! Trees of trips, as plain data: what goes, the reduced tree, its levels, its pair and weights. -/
namespace Ks
inductive Tr where
  | leaf (b : Int)
  | node (k : Int) (ps : List Tr)

/-! ### induction over a tree and its parts -/
theorem Tr.ind {P : Tr → Prop} (hl : ∀ b, P (.leaf b)) (hn : ∀ k ps, (∀ p ∈ ps, P p) → P (.node k ps)) : ∀ t, P t
  | .leaf b => hl b
  | .node k ps => hn k ps fun p _ => Tr.ind hl hn p

def Tr.isL : Tr → Bool
  | .leaf _ => true
  | .node _ _ => false

mutual
def goes (S : Int → Bool) : Tr → Bool
  | .leaf b => S b
  | .node k ps => decide (k ≤ ((cnt S ps : Nat) : Int))
def cnt (S : Int → Bool) : List Tr → Nat
  | [] => 0
  | p :: r => (if goes S p = true then 1 else 0) + cnt S r
end
mutual
def btns : Tr → List Int
  | .leaf b => [b]
  | .node _ ps => btnsL ps
def btnsL : List Tr → List Int
  | [] => []
  | p :: r => btns p ++ btnsL r
end
mutual
def dep : Tr → Nat
  | .leaf _ => 0
  | .node _ ps => depL ps + 1
def depL : List Tr → Nat
  | [] => 0
  | p :: r => max (dep p) (depL r)
end
theorem dep_mem {p : Tr} : ∀ {ps : List Tr}, p ∈ ps → dep p ≤ depL ps
  | q :: r, h => by
    rw [depL]
    rcases List.mem_cons.mp h with rfl | h
    · omega
    · have := dep_mem h
      omega
theorem cnt_eq (S : Int → Bool) : ∀ ps : List Tr, cnt S ps = ps.countP (goes S)
  | [] => by rw [cnt, List.countP_nil]
  | p :: r => by
    rw [cnt, List.countP_cons, cnt_eq S r]
    omega
theorem btnsL_eq : ∀ ps : List Tr, btnsL ps = ps.flatMap btns
  | [] => by rw [btnsL, List.flatMap_nil]
  | p :: r => by rw [btnsL, List.flatMap_cons, btnsL_eq r]
theorem goes_node (S : Int → Bool) (k : Int) (ps : List Tr) : goes S (.node k ps) = decide (k ≤ ((ps.countP (goes S) : Nat) : Int)) := by rw [goes, cnt_eq]
theorem btns_node (k : Int) (ps : List Tr) : btns (.node k ps) = ps.flatMap btns := by rw [btns, btnsL_eq]
theorem dep_node (k : Int) (ps : List Tr) : dep (.node k ps) = depL ps + 1 := by rw [dep]

/-! ### own buttons, own trips -/
def ownB : List Tr → List Int
  | [] => []
  | .leaf b :: r => b :: ownB r
  | .node _ _ :: r => ownB r
def ownT : List Tr → List Tr
  | [] => []
  | .leaf _ :: r => ownT r
  | .node k ps :: r => .node k ps :: ownT r
theorem ownB_append : ∀ a b : List Tr, ownB (a ++ b) = ownB a ++ ownB b
  | [], b => rfl
  | .leaf x :: r, b => by show x :: ownB (r ++ b) = _; rw [ownB_append r b]; rfl
  | .node _ _ :: r, b => ownB_append r b
theorem ownT_append : ∀ a b : List Tr, ownT (a ++ b) = ownT a ++ ownT b
  | [], b => rfl
  | .leaf x :: r, b => ownT_append r b
  | .node k ps :: r, b => by show Tr.node k ps :: ownT (r ++ b) = _; rw [ownT_append r b]; rfl
theorem ownT_eq : ∀ ps : List Tr, ownT ps = ps.filter fun p => !p.isL
  | [] => rfl
  | .leaf _ :: r => by
    rw [List.filter_cons_of_neg (by simp [Tr.isL])]
    exact ownT_eq r
  | .node k ps :: r => by
    rw [List.filter_cons_of_pos (by simp [Tr.isL]), ← ownT_eq r]
    rfl
theorem own_len : ∀ ps : List Tr, (ownB ps).length + (ownT ps).length = ps.length
  | [] => rfl
  | .leaf x :: r => by
    have := own_len r
    show (ownB r).length + 1 + (ownT r).length = r.length + 1
    omega
  | .node k ps :: r => by
    have := own_len r
    show (ownB r).length + ((ownT r).length + 1) = r.length + 1
    omega
theorem ownT_perm {a b : List Tr} (h : a.Perm b) : (ownT a).Perm (ownT b) := by
  rw [ownT_eq, ownT_eq]
  exact h.filter _
theorem ownB_eq : ∀ ps : List Tr, ownB ps = ps.filterMap fun p => match p with | .leaf b => some b | .node _ _ => none
  | [] => rfl
  | .leaf x :: r => congrArg (List.cons x) (ownB_eq r)
  | .node k ps :: r => ownB_eq r
theorem ownB_perm {a b : List Tr} (h : a.Perm b) : (ownB a).Perm (ownB b) := by
  rw [ownB_eq, ownB_eq]
  exact h.filterMap _
theorem mem_ownT {t : Tr} {ps : List Tr} (h : t ∈ ownT ps) : t ∈ ps := by
  rw [ownT_eq] at h
  exact (List.mem_filter.mp h).1
theorem mem_ownT_node {t : Tr} {ps : List Tr} (h : t ∈ ownT ps) : ∃ k qs, t = .node k qs := by
  rw [ownT_eq] at h
  have q := (List.mem_filter.mp h).2
  cases t with
  | leaf b => simp [Tr.isL] at q
  | node k qs => exact ⟨k, qs, rfl⟩
theorem own_count (S : Int → Bool) : ∀ ps : List Tr, ps.countP (goes S) = (ownB ps).countP S + (ownT ps).countP (goes S)
  | [] => rfl
  | .leaf x :: r => by
    have q := own_count S r
    show (Tr.leaf x :: r).countP (goes S) = (x :: ownB r).countP S + (ownT r).countP (goes S)
    rw [List.countP_cons, List.countP_cons, q, goes]
    omega
  | .node k ps :: r => by
    have q := own_count S r
    show (Tr.node k ps :: r).countP (goes S) = (ownB r).countP S + (Tr.node k ps :: ownT r).countP (goes S)
    rw [List.countP_cons, List.countP_cons, q]
    omega
theorem own_btns : ∀ ps : List Tr, (ps.flatMap btns).Perm (ownB ps ++ (ownT ps).flatMap btns)
  | [] => .refl _
  | .leaf x :: r => by
    show ((Tr.leaf x :: r).flatMap btns).Perm (x :: ownB r ++ (ownT r).flatMap btns)
    rw [List.flatMap_cons, btns]
    exact (own_btns r).cons x
  | .node k ps :: r => by
    show ((Tr.node k ps :: r).flatMap btns).Perm (ownB r ++ (Tr.node k ps :: ownT r).flatMap btns)
    rw [List.flatMap_cons, List.flatMap_cons]
    refine ((own_btns r).append_left _).trans ?_
    rw [← List.append_assoc, ← List.append_assoc]
    exact List.perm_append_comm.append_right _
end Ks
/-! The reduced tree. -/
namespace Ks
def fst : Tr → Int
  | .leaf b => b
  | .node _ [] => 0
  | .node _ (p :: _) => fst p
/-- a drawn nest: bounds in range, at most one part a trip -/
inductive Nst : Tr → Prop where
  | leaf (b : Int) : Nst (.leaf b)
  | node {k : Int} {ps : List Tr} (h0 : ps ≠ []) (h1 : 1 ≤ k) (h2 : k ≤ (ps.length : Nat)) (hp : ∀ p ∈ ps, Nst p) (h3 : (ownT ps).length ≤ 1) : Nst (.node k ps)
/-- a reduced nest: besides two parts at least, by their first buttons -/
inductive Red : Tr → Prop where
  | leaf (b : Int) : Red (.leaf b)
  | node {k : Int} {ps : List Tr} (h0 : 2 ≤ ps.length) (h1 : 1 ≤ k) (h2 : k ≤ (ps.length : Nat)) (hp : ∀ p ∈ ps, Red p) (h3 : (ownT ps).length ≤ 1) (hs : ps.Pairwise fun p q => fst p ≤ fst q) : Red (.node k ps)

def like (k : Int) (n : Nat) : Tr → Bool
  | .leaf _ => false
  | .node k' ps => (decide (k = 1) && decide (k' = 1)) || (decide (k = (n : Int)) && decide (k' = (ps.length : Int)))
def part1 (k : Int) (n : Nat) : Tr → List Tr
  | .leaf b => [.leaf b]
  | .node k' ps => if like k n (.node k' ps) = true then ps else [.node k' ps]
theorem part1_node (k : Int) (n : Nat) (k' : Int) (ps : List Tr) : part1 k n (.node k' ps) = if like k n (.node k' ps) = true then ps else [.node k' ps] := rfl
def flat (k : Int) (n : Nat) (qs : List Tr) : List Tr := qs.flatMap (part1 k n)
def leF (p q : Tr) : Bool := decide (fst p ≤ fst q)
def srt (qs : List Tr) : List Tr := qs.mergeSort leF
def mk (k : Int) (qs : List Tr) : Tr :=
  if h : qs.length = 1 then qs[0]'(by omega)
  else .node (if k = (qs.length : Int) then ((flat k qs.length qs).length : Int) else k) (srt (flat k qs.length qs))
mutual
def red : Tr → Tr
  | .leaf b => .leaf b
  | .node k ps => mk k (reds ps)
def reds : List Tr → List Tr
  | [] => []
  | p :: r => red p :: reds r
end
theorem reds_eq : ∀ ps : List Tr, reds ps = ps.map red
  | [] => by rw [reds, List.map_nil]
  | p :: r => by rw [reds, List.map_cons, reds_eq r]
theorem red_node (k : Int) (ps : List Tr) : red (.node k ps) = mk k (ps.map red) := by rw [red, reds_eq]
theorem red_leaf (b : Int) : red (.leaf b) = .leaf b := by rw [red]
theorem mk_one (k : Int) (q : Tr) : mk k [q] = q := by
  unfold mk
  exact dif_pos rfl
theorem mk_more (k : Int) {qs : List Tr} (h : qs.length ≠ 1) : mk k qs = .node (if k = (qs.length : Int) then ((flat k qs.length qs).length : Int) else k) (srt (flat k qs.length qs)) := by
  unfold mk
  rw [dif_neg h]

theorem srt_perm (qs : List Tr) : (srt qs).Perm qs := List.mergeSort_perm _ _
theorem srt_sorted (qs : List Tr) : (srt qs).Pairwise fun p q => fst p ≤ fst q := by
  have q := List.pairwise_mergeSort (le := leF) (fun a b c h1 h2 => ?_) (fun a b => ?_) qs
  · exact q.imp fun h => of_decide_eq_true h
  · have h1 := of_decide_eq_true h1
    have h2 := of_decide_eq_true h2
    exact decide_eq_true (Int.le_trans h1 h2)
  · rcases Int.le_total (fst a) (fst b) with h | h
    · simp [leF, h]
    · simp [leF, h]

/-! ### what goes with the flat parts -/
theorem countP_flat (S : Int → Bool) (k : Int) (n : Nat) (qs : List Tr) : (flat k n qs).countP (goes S) = (qs.map fun q => (part1 k n q).countP (goes S)).sum := by
  rw [flat, List.countP_flatMap]
  rfl
theorem part1_not {k : Int} {n : Nat} {q : Tr} (h : like k n q = false) : part1 k n q = [q] := by
  cases q with
  | leaf b => rfl
  | node k' ps => exact if_neg (by rw [h]; decide)
theorem part1_like {k : Int} {n : Nat} {k' : Int} {ps : List Tr} (h : like k n (.node k' ps) = true) : part1 k n (.node k' ps) = ps := if_pos h
theorem flat_not {k : Int} {n : Nat} : ∀ {qs : List Tr}, (∀ q ∈ qs, like k n q = false) → flat k n qs = qs
  | [], _ => rfl
  | q :: r, h => by
    show (q :: r).flatMap (part1 k n) = q :: r
    rw [List.flatMap_cons, part1_not (h q (.head _))]
    have := flat_not (qs := r) fun x hx => h x (.tail _ hx)
    unfold flat at this
    rw [this]
    rfl
theorem countP_le (S : Int → Bool) (ps : List Tr) : ps.countP (goes S) ≤ ps.length := List.countP_le_length
/-- k = 1: some flat part goes just if some part does -/
theorem flat_one (S : Int → Bool) {n : Nat} (hn : n ≠ 1) : ∀ {qs : List Tr}, 0 < (flat 1 n qs).countP (goes S) ↔ 0 < qs.countP (goes S)
  | [] => by simp [flat]
  | q :: r => by
    have ih := flat_one S hn (qs := r)
    have e : (flat 1 n (q :: r)).countP (goes S) = (part1 1 n q).countP (goes S) + (flat 1 n r).countP (goes S) := by
      rw [flat, List.flatMap_cons, List.countP_append]
      rfl
    rw [e, List.countP_cons]
    have one : 0 < (part1 1 n q).countP (goes S) ↔ goes S q = true := by
      cases hq : like 1 n q with
      | false =>
        rw [part1_not hq, List.countP_cons, List.countP_nil]
        by_cases g : goes S q = true
        · simp [g]
        · simp [g]
      | true =>
        cases q with
        | leaf b => cases hq
        | node k' ps =>
          rw [part1_like hq, goes_node]
          have hk : k' = 1 := by
            simp only [like, Bool.or_eq_true, Bool.and_eq_true, decide_eq_true_eq] at hq
            omega
          subst hk
          simp only [decide_eq_true_eq]
          omega
    by_cases g : goes S q = true
    · have := one.mpr g
      simp only [g, if_true]
      omega
    · have : ¬ 0 < (part1 1 n q).countP (goes S) := fun z => g (one.mp z)
      simp only [g]
      simp only [if_false, Bool.false_eq_true]
      omega
/-- k = n: all flat parts go just if all parts do -/
theorem flat_all (S : Int → Bool) {n : Nat} (hn : n ≠ 1) : ∀ {qs : List Tr}, (flat n n qs).length ≤ (flat n n qs).countP (goes S) ↔ qs.length ≤ qs.countP (goes S)
  | [] => by simp [flat]
  | q :: r => by
    have ih := flat_all S hn (qs := r)
    have e : (flat n n (q :: r)).countP (goes S) = (part1 n n q).countP (goes S) + (flat n n r).countP (goes S) := by
      rw [flat, List.flatMap_cons, List.countP_append]
      rfl
    have e2 : (flat n n (q :: r)).length = (part1 n n q).length + (flat n n r).length := by
      rw [flat, List.flatMap_cons, List.length_append]
      rfl
    have b1 := countP_le S (part1 n n q)
    have b2 := countP_le S (flat n n r)
    have b3 := countP_le S r
    rw [e, e2, List.countP_cons, List.length_cons]
    have one : (part1 n n q).length ≤ (part1 n n q).countP (goes S) ↔ goes S q = true := by
      cases hq : like n n q with
      | false =>
        rw [part1_not hq, List.countP_cons, List.countP_nil]
        by_cases g : goes S q = true
        · simp [g]
        · simp [g]
      | true =>
        cases q with
        | leaf b => cases hq
        | node k' ps =>
          rw [part1_like hq, goes_node]
          have hk : k' = (ps.length : Int) := by
            simp only [like, Bool.or_eq_true, Bool.and_eq_true, decide_eq_true_eq] at hq
            omega
          subst hk
          simp only [decide_eq_true_eq]
          omega
    by_cases g : goes S q = true
    · have := one.mpr g
      simp only [g, if_true]
      omega
    · have : ¬ (part1 n n q).length ≤ (part1 n n q).countP (goes S) := fun z => g (one.mp z)
      simp only [g]
      simp only [if_false, Bool.false_eq_true]
      omega
theorem flat_neither {k : Int} {n : Nat} (h1 : k ≠ 1) (h2 : k ≠ (n : Int)) (qs : List Tr) : flat k n qs = qs := flat_not fun q _ => by
  cases q with
  | leaf b => rfl
  | node k' ps => simp [like, h1, h2]
theorem mk_goes (S : Int → Bool) {k : Int} {qs : List Tr} (h1 : 1 ≤ k) (h2 : k ≤ (qs.length : Int)) : goes S (mk k qs) = decide (k ≤ ((qs.countP (goes S) : Nat) : Int)) := by
  by_cases hl : qs.length = 1
  · match qs, hl with
    | [q], _ =>
      have hk : k = 1 := by
        simp only [List.length_singleton] at h2
        omega
      rw [mk_one, hk, List.countP_cons, List.countP_nil]
      by_cases g : goes S q = true
      · simp [g]
      · simp [g]
  · rw [mk_more k hl, goes_node, (srt_perm _).countP_eq]
    have lb := countP_le S (flat k qs.length qs)
    by_cases ha : k = (qs.length : Int)
    · rw [if_pos ha]
      have e := flat_all S hl (qs := qs)
      rw [← ha] at e
      have lb2 := countP_le S qs
      apply decide_eq_decide.mpr
      omega
    · rw [if_neg ha]
      by_cases ho : k = 1
      · have e := flat_one S hl (qs := qs)
        subst ho
        apply decide_eq_decide.mpr
        omega
      · rw [flat_neither ho ha]
theorem map_count {α : Type} {f : α → α} {p : α → Bool} : ∀ {l : List α}, (∀ x ∈ l, p (f x) = p x) → (l.map f).countP p = l.countP p
  | [], _ => rfl
  | a :: r, h => by rw [List.map_cons, List.countP_cons, List.countP_cons, h a (.head _), map_count fun x hx => h x (.tail _ hx)]
theorem red_goes (S : Int → Bool) {t : Tr} (h : Nst t) : goes S (red t) = goes S t := by
  induction h with
  | leaf b => rw [red_leaf]
  | node h0 h1 h2 hp h3 ih =>
    rw [red_node, mk_goes S h1 (by rw [List.length_map]; exact h2), goes_node, map_count ih]

/-! ### its buttons -/
theorem part1_btns (k : Int) (n : Nat) (q : Tr) : (part1 k n q).flatMap btns = btns q := by
  cases q with
  | leaf b => simp [part1, btns]
  | node k' ps =>
    rw [part1_node]
    split
    · rw [btns_node]
    · simp
theorem flat_btns (k : Int) (n : Nat) : ∀ qs : List Tr, (flat k n qs).flatMap btns = qs.flatMap btns
  | [] => rfl
  | q :: r => by
    have ih := flat_btns k n r
    show ((q :: r).flatMap (part1 k n)).flatMap btns = _
    rw [List.flatMap_cons, List.flatMap_append, List.flatMap_cons, part1_btns]
    exact congrArg _ ih
theorem flatMap_perm {α β : Type} (f : α → List β) {a b : List α} (h : a.Perm b) : (a.flatMap f).Perm (b.flatMap f) := by
  induction h with
  | nil => exact .refl _
  | cons x _ ih =>
    rw [List.flatMap_cons, List.flatMap_cons]
    exact ih.append_left _
  | swap x y l =>
    rw [List.flatMap_cons, List.flatMap_cons, List.flatMap_cons, List.flatMap_cons, ← List.append_assoc, ← List.append_assoc]
    exact List.perm_append_comm.append_right _
  | trans _ _ a b => exact a.trans b
theorem mk_btns (k : Int) (qs : List Tr) : (btns (mk k qs)).Perm (qs.flatMap btns) := by
  by_cases hl : qs.length = 1
  · match qs, hl with
    | [q], _ =>
      rw [mk_one]
      simp
  · rw [mk_more k hl, btns_node, ← flat_btns k qs.length qs]
    exact flatMap_perm _ (srt_perm _)
theorem flatMap_perm_of {α β : Type} {f g : α → List β} : ∀ {l : List α}, (∀ x ∈ l, (f x).Perm (g x)) → (l.flatMap f).Perm (l.flatMap g)
  | [], _ => .refl _
  | a :: r, h => by
    rw [List.flatMap_cons, List.flatMap_cons]
    exact (h a (.head _)).append (flatMap_perm_of fun x hx => h x (.tail _ hx))
theorem red_btns (t : Tr) : (btns (red t)).Perm (btns t) := by
  refine Tr.ind (P := fun t => (btns (red t)).Perm (btns t)) (fun b => by rw [red_leaf]) (fun k ps ih => ?_) t
  rw [red_node, btns_node]
  refine (mk_btns k _).trans ?_
  rw [List.flatMap_map]
  exact flatMap_perm_of ih

/-! ### it is a reduced nest -/
theorem mem_part1 {k : Int} {n : Nat} {p q : Tr} (hp : p ∈ part1 k n q) : p = q ∨ ∃ k' ps, q = .node k' ps ∧ p ∈ ps := by
  cases q with
  | leaf b =>
    have : p = .leaf b := by simpa [part1] using hp
    exact .inl this
  | node k' ps =>
    rw [part1_node] at hp
    split at hp
    · exact .inr ⟨k', ps, rfl, hp⟩
    · exact .inl (by simpa using hp)
theorem Red.parts {k : Int} {ps : List Tr} (h : Red (.node k ps)) : ∀ p ∈ ps, Red p := by
  cases h with
  | node _ _ _ hp _ _ => exact hp
theorem Red.trips {k : Int} {ps : List Tr} (h : Red (.node k ps)) : (ownT ps).length ≤ 1 := by
  cases h with
  | node _ _ _ _ h3 _ => exact h3
theorem Red.len {k : Int} {ps : List Tr} (h : Red (.node k ps)) : 2 ≤ ps.length ∧ 1 ≤ k ∧ k ≤ (ps.length : Int) := by
  cases h with
  | node h0 h1 h2 _ _ _ => exact ⟨h0, h1, h2⟩
theorem flat_red {k : Int} {n : Nat} {qs : List Tr} (h : ∀ q ∈ qs, Red q) : ∀ p ∈ flat k n qs, Red p := fun p hp => by
  obtain ⟨q, hq, hp⟩ := List.mem_flatMap.mp hp
  rcases mem_part1 hp with rfl | ⟨k', ps, rfl, hm⟩
  · exact h p hq
  · exact (h _ hq).parts p hm
theorem ownT_part1 {k : Int} {n : Nat} {q : Tr} (h : Red q) : (ownT (part1 k n q)).length ≤ (ownT [q]).length := by
  cases q with
  | leaf b => exact Nat.le_refl _
  | node k' ps =>
    rw [part1_node]
    split
    · exact h.trips
    · exact Nat.le_refl _
theorem flat_trips {k : Int} {n : Nat} : ∀ {qs : List Tr}, (∀ q ∈ qs, Red q) → (ownT (flat k n qs)).length ≤ (ownT qs).length
  | [], _ => Nat.le_refl _
  | q :: r, h => by
    have ih := flat_trips (k := k) (n := n) (qs := r) fun x hx => h x (.tail _ hx)
    have e : ownT (flat k n (q :: r)) = ownT (part1 k n q) ++ ownT (flat k n r) := by
      rw [flat, List.flatMap_cons, ownT_append]
      rfl
    have e2 : ownT (q :: r) = ownT [q] ++ ownT r := by rw [← ownT_append]; rfl
    rw [e, e2, List.length_append, List.length_append]
    have := ownT_part1 (k := k) (n := n) (h q (.head _))
    omega
theorem flat_len {k : Int} {n : Nat} : ∀ {qs : List Tr}, (∀ q ∈ qs, Red q) → qs.length ≤ (flat k n qs).length
  | [], _ => Nat.le_refl _
  | q :: r, h => by
    have ih := flat_len (k := k) (n := n) (qs := r) fun x hx => h x (.tail _ hx)
    have e : (flat k n (q :: r)).length = (part1 k n q).length + (flat k n r).length := by
      rw [flat, List.flatMap_cons, List.length_append]
      rfl
    rw [e, List.length_cons]
    have : 1 ≤ (part1 k n q).length := by
      have hq := h q (.head _)
      cases q with
      | leaf b => exact Nat.le_refl _
      | node k' ps =>
        rw [part1_node]
        split
        · have := hq.len
          omega
        · exact Nat.le_refl _
    omega
theorem ownT_map_red : ∀ {ps : List Tr}, (ownT (ps.map red)).length ≤ (ownT ps).length
  | [] => Nat.le_refl _
  | .leaf b :: r => by
    rw [List.map_cons, red_leaf]
    exact ownT_map_red (ps := r)
  | .node k qs :: r => by
    have ih := ownT_map_red (ps := r)
    rw [List.map_cons]
    show _ ≤ (ownT r).length + 1
    cases red (.node k qs) with
    | leaf b =>
      show (ownT (r.map red)).length ≤ _
      omega
    | node k' qs' =>
      show (ownT (r.map red)).length + 1 ≤ _
      omega
theorem mk_red {k : Int} {qs : List Tr} (h0 : qs ≠ []) (h1 : 1 ≤ k) (h2 : k ≤ (qs.length : Int)) (h : ∀ q ∈ qs, Red q) (h3 : (ownT qs).length ≤ 1) : Red (mk k qs) := by
  by_cases hl : qs.length = 1
  · match qs, hl with
    | [q], _ =>
      rw [mk_one]
      exact h q (.head _)
  · rw [mk_more k hl]
    have pm := srt_perm (flat k qs.length qs)
    have l1 := flat_len (k := k) (n := qs.length) h
    have lp := pm.length_eq
    have l0 : 0 < qs.length := List.length_pos_iff.mpr h0
    refine .node (by omega) ?_ ?_ (fun p hp => flat_red h p (pm.mem_iff.mp hp)) ?_ (srt_sorted _)
    · split <;> omega
    · split <;> omega
    · rw [(ownT_perm pm).length_eq]
      have := flat_trips (k := k) (n := qs.length) h
      omega
theorem red_Red {t : Tr} (h : Nst t) : Red (red t) := by
  induction h with
  | leaf b => rw [red_leaf]; exact .leaf b
  | @node k ps h0 h1 h2 hp h3 ih =>
    rw [red_node]
    refine mk_red (by simpa using h0) h1 (by rw [List.length_map]; exact h2) (fun q hq => ?_) (Nat.le_trans ownT_map_red h3)
    obtain ⟨p, hp', rfl⟩ := List.mem_map.mp hq
    exact ih p hp'

/-! ### the first button is the least -/
theorem Red.first {t : Tr} (h : Red t) : fst t ∈ btns t ∧ ∀ b ∈ btns t, fst t ≤ b := by
  induction h with
  | leaf b =>
    rw [btns, fst]
    exact ⟨List.mem_singleton.mpr rfl, fun c hc => by rw [List.mem_singleton.mp hc]; exact Int.le_refl _⟩
  | @node k ps h0 h1 h2 hp h3 hs ih =>
    cases ps with
    | nil => simp at h0
    | cons p r =>
      rw [btns_node, fst]
      refine ⟨List.mem_flatMap.mpr ⟨p, .head _, (ih p (.head _)).1⟩, fun b hb => ?_⟩
      obtain ⟨q, hq, hb⟩ := List.mem_flatMap.mp hb
      have h4 := (ih q hq).2 b hb
      rcases List.mem_cons.mp hq with rfl | hq
      · exact h4
      · exact Int.le_trans ((List.pairwise_cons.mp hs).1 q hq) h4

/-! ### depth -/
theorem depL_le {n : Nat} : ∀ {ps : List Tr}, (∀ p ∈ ps, dep p ≤ n) → depL ps ≤ n
  | [], _ => by rw [depL]; omega
  | p :: r, h => by
    rw [depL]
    have h1 := h p (.head _)
    have h2 := depL_le (n := n) (ps := r) fun x hx => h x (.tail _ hx)
    omega
theorem mk_dep (k : Int) (qs : List Tr) : dep (mk k qs) ≤ depL qs + 1 := by
  by_cases hl : qs.length = 1
  · match qs, hl with
    | [q], _ =>
      rw [mk_one, depL]
      omega
  · rw [mk_more k hl, dep_node]
    have : depL (srt (flat k qs.length qs)) ≤ depL qs := depL_le fun p hp => by
      obtain ⟨q, hq, hp⟩ := List.mem_flatMap.mp ((srt_perm _).mem_iff.mp hp)
      have h1 := dep_mem hq
      rcases mem_part1 hp with rfl | ⟨k', ps, rfl, hm⟩
      · exact h1
      · have h2 := dep_mem hm
        rw [dep_node] at h1
        omega
    omega
theorem red_dep (t : Tr) : dep (red t) ≤ dep t := by
  refine Tr.ind (P := fun t => dep (red t) ≤ dep t) (fun b => by rw [red_leaf]; exact Nat.le_refl _) (fun k ps ih => ?_) t
  rw [red_node, dep_node]
  refine Nat.le_trans (mk_dep k _) (Nat.succ_le_succ (depL_le fun q hq => ?_))
  obtain ⟨p, hp, rfl⟩ := List.mem_map.mp hq
  exact Nat.le_trans (ih p hp) (dep_mem hp)
end Ks
/-! The levels of a reduced nest, its pair and weights; the scale tells what the nest tells. -/
namespace Ks
abbrev Lv := Int × List Int
inductive Lvs : Tr → List Lv → Prop where
  | leaf (b : Int) : Lvs (.leaf b) [(1, [b])]
  | last {k : Int} {ps : List Tr} (h : ownT ps = []) : Lvs (.node k ps) [(k, ownB ps)]
  | more {k : Int} {ps : List Tr} {t : Tr} {L : List Lv} (h : ownT ps = [t]) (ht : Lvs t L) : Lvs (.node k ps) ((k, ownB ps) :: L)
/-- bounds in range, each level but the last has a button -/
def Ok : List Lv → Prop
  | [] => False
  | [(k, bs)] => 1 ≤ k ∧ k ≤ (bs.length : Int)
  | (k, bs) :: l :: L => 1 ≤ k ∧ k ≤ (bs.length : Int) + 1 ∧ 1 ≤ bs.length ∧ Ok (l :: L)
theorem Lvs.ne {t : Tr} {L : List Lv} (h : Lvs t L) : ∃ l r, L = l :: r := by
  cases h with
  | leaf b => exact ⟨_, _, rfl⟩
  | last h => exact ⟨_, _, rfl⟩
  | more h ht => exact ⟨_, _, rfl⟩
theorem lvs_of {t : Tr} (h : Red t) : ∃ L, Lvs t L ∧ Ok L := by
  induction h with
  | leaf b => exact ⟨_, .leaf b, by show (1 : Int) ≤ 1 ∧ (1 : Int) ≤ ((1 : Nat) : Int); omega⟩
  | @node k ps h0 h1 h2 hp h3 hs ih =>
    have ol := own_len ps
    cases e : ownT ps with
    | nil =>
      rw [e] at ol
      simp only [List.length_nil] at ol
      exact ⟨_, .last e, h1, by omega⟩
    | cons t r =>
      have er : r = [] := by
        rw [e] at h3
        cases r with
        | nil => rfl
        | cons x y => simp at h3
      subst er
      obtain ⟨L, hL, oL⟩ := ih t (mem_ownT (by rw [e]; exact .head _))
      refine ⟨_, .more e hL, ?_⟩
      obtain ⟨l, r, rfl⟩ := hL.ne
      rw [e] at ol
      simp only [List.length_singleton] at ol
      exact ⟨h1, by omega, by omega, oL⟩

def goesL (S : Int → Bool) : List Lv → Bool
  | [] => false
  | (k, bs) :: L => decide (k ≤ ((bs.countP S : Nat) : Int) + (if goesL S L = true then 1 else 0))
theorem lvs_goes (S : Int → Bool) {t : Tr} {L : List Lv} (h : Lvs t L) : goes S t = goesL S L := by
  induction h with
  | leaf b =>
    rw [goes, goesL, goesL, List.countP_cons, List.countP_nil]
    cases S b <;> rfl
  | last h =>
    rw [goes_node, own_count, h, goesL, goesL, List.countP_nil]
    apply decide_eq_decide.mpr
    simp only [Bool.false_eq_true, if_false]
    omega
  | @more k ps t L h ht ih =>
    rw [goes_node, own_count, h, goesL, List.countP_cons, List.countP_nil, ih]
    by_cases g : goesL S L = true
    · simp [g]
    · simp [g]
theorem lvs_btns {t : Tr} {L : List Lv} (h : Lvs t L) : (btns t).Perm (L.flatMap (·.2)) := by
  induction h with
  | leaf b => rw [btns]; exact .refl _
  | last h =>
    rw [btns_node]
    refine (own_btns _).trans ?_
    rw [h]
    simp
  | @more k ps t L h ht ih =>
    rw [btns_node, List.flatMap_cons]
    refine (own_btns _).trans ?_
    rw [h]
    simp only [List.flatMap_cons, List.flatMap_nil, List.append_nil]
    exact ih.append_left _

/-! ### the pair and the weights, the outermost first -/
def wt (k s a b : Int) : Int := if k < 2 then a else if s ≥ k then max a b else b
structure Pw where
  a : Int
  b : Int
  w : Int
def pw : List Lv → List Pw
  | [] => []
  | (k, bs) :: L => match pw L with
    | [] => [⟨k, (bs.length : Int) - k + 1, 1⟩]
    | p :: R => ⟨p.a + (k - 1) * wt k bs.length p.a p.b, p.b + ((bs.length : Int) - k + 1) * wt k bs.length p.a p.b, wt k bs.length p.a p.b⟩ :: p :: R
theorem pw_one (k : Int) (bs : List Int) : pw [(k, bs)] = [⟨k, (bs.length : Int) - k + 1, 1⟩] := rfl
theorem pw_ne (l : Lv) (L : List Lv) : ∃ p R, pw (l :: L) = p :: R := by
  obtain ⟨k, bs⟩ := l
  rw [pw]
  cases pw L with
  | nil => exact ⟨_, _, rfl⟩
  | cons p R => exact ⟨_, _, rfl⟩
theorem pw_more (k : Int) (bs : List Int) {L : List Lv} {p : Pw} {R : List Pw} (h : pw L = p :: R) :
    pw ((k, bs) :: L) = ⟨p.a + (k - 1) * wt k bs.length p.a p.b, p.b + ((bs.length : Int) - k + 1) * wt k bs.length p.a p.b, wt k bs.length p.a p.b⟩ :: p :: R := by
  rw [pw, h]
theorem pw_len : ∀ L : List Lv, (pw L).length = L.length
  | [] => rfl
  | [(k, bs)] => rfl
  | (k, bs) :: l :: L => by
    obtain ⟨p, R, e⟩ := pw_ne l L
    have ih := pw_len (l :: L)
    rw [pw_more k bs e]
    rw [e] at ih
    simp only [List.length_cons] at ih ⊢
    omega
/-- the buttons with their weights, the outermost first -/
def wl : List Lv → List Pw → List (Int × Int)
  | [], _ => []
  | _ :: _, [] => []
  | (_, bs) :: L, p :: R => bs.map (fun b => (b, p.w)) ++ wl L R
def wls (L : List Lv) : List (Int × Int) := wl L (pw L)
theorem wls_one (k : Int) (bs : List Int) : wls [(k, bs)] = bs.map fun b => (b, 1) := by
  unfold wls
  rw [pw_one, wl, wl, List.append_nil]
theorem wls_more (k : Int) (bs : List Int) {L : List Lv} {p : Pw} {R : List Pw} (h : pw L = p :: R) : wls ((k, bs) :: L) = bs.map (fun b => (b, wt k bs.length p.a p.b)) ++ wls L := by
  unfold wls
  rw [pw_more k bs h, wl, h]
theorem wl_fst : ∀ (L : List Lv) (R : List Pw), R.length = L.length → (wl L R).map (·.1) = L.flatMap (·.2)
  | [], _, _ => by simp [wl]
  | (k, bs) :: L, p :: R, h => by
    rw [wl, List.map_append, List.map_map, wl_fst L R (by simpa using h), List.flatMap_cons]
    exact congrArg (· ++ _) (List.map_id' bs)
theorem wls_fst (L : List Lv) : (wls L).map (·.1) = L.flatMap (·.2) := wl_fst L _ (pw_len L)

def wsum (S : Int → Bool) (rs : List (Int × Int)) : Int := (rs.map fun r => if S r.1 = true then r.2 else 0).sum
def tot (rs : List (Int × Int)) : Int := (rs.map (·.2)).sum
theorem wsum_append (S : Int → Bool) (a b : List (Int × Int)) : wsum S (a ++ b) = wsum S a + wsum S b := by
  unfold wsum
  rw [List.map_append, List.sum_append]
theorem tot_append (a b : List (Int × Int)) : tot (a ++ b) = tot a + tot b := by
  unfold tot
  rw [List.map_append, List.sum_append]
theorem wsum_level (S : Int → Bool) (v : Int) : ∀ bs : List Int, wsum S (bs.map fun b => (b, v)) = ((bs.countP S : Nat) : Int) * v
  | [] => by simp [wsum]
  | b :: r => by
    have ih := wsum_level S v r
    have e : wsum S ((b :: r).map fun b => (b, v)) = (if S b = true then v else 0) + wsum S (r.map fun b => (b, v)) := by
      unfold wsum
      rw [List.map_cons, List.map_cons, List.sum_cons]
    rw [e, ih, List.countP_cons]
    by_cases g : S b = true
    · rw [if_pos g, if_pos g, Int.natCast_add, Int.add_mul]
      omega
    · rw [if_neg g, if_neg g, Nat.add_zero]
      omega
theorem tot_level (v : Int) : ∀ bs : List Int, tot (bs.map fun b => (b, v)) = (bs.length : Int) * v
  | [] => by simp [tot]
  | b :: r => by
    have ih := tot_level v r
    have e : tot ((b :: r).map fun b => (b, v)) = v + tot (r.map fun b => (b, v)) := by
      unfold tot
      rw [List.map_cons, List.map_cons, List.sum_cons]
    rw [e, ih, List.length_cons, Int.natCast_add, Int.add_mul]
    omega
theorem wt_a {k s a b : Int} (h1 : 1 ≤ k) (hs : k ≤ s) : a ≤ wt k s a b := by
  have m := Int.le_max_left a b
  unfold wt
  split
  · exact Int.le_refl a
  · first
      | exact m
      | (rw [if_pos hs]; exact m)
theorem wt_b {k s a b : Int} (hk : 2 ≤ k) : b ≤ wt k s a b := by
  have m := Int.le_max_right a b
  unfold wt
  rw [if_neg (by omega)]
  split
  · exact m
  · exact Int.le_refl b
theorem wt_pos {k s a b : Int} (ha : 1 ≤ a) (hb : 1 ≤ b) : 1 ≤ wt k s a b := by
  have m := Int.le_max_left a b
  unfold wt
  split
  · exact ha
  · split
    · exact Int.le_trans ha m
    · exact hb

/-- all that is said of a row of levels -/
structure Tells (L : List Lv) (p : Pw) : Prop where
  a : 1 ≤ p.a
  b : 1 ≤ p.b
  w : 1 ≤ p.w
  sum : tot (wls L) + 1 = p.a + p.b
  yes : ∀ S, goesL S L = true → p.a ≤ wsum S (wls L)
  no : ∀ S, goesL S L = false → wsum S (wls L) ≤ tot (wls L) - p.b
theorem mul_mono {x y v : Int} (h : x ≤ y) (hv : 0 ≤ v) : x * v ≤ y * v := Int.mul_le_mul_of_nonneg_right h hv
theorem wsum_nonneg {S : Int → Bool} : ∀ {rs : List (Int × Int)}, (∀ r ∈ rs, 0 ≤ r.2) → 0 ≤ wsum S rs
  | [], _ => by simp [wsum]
  | r :: rs, h => by
    have ih := wsum_nonneg (S := S) (rs := rs) fun x hx => h x (.tail _ hx)
    have h0 := h r (.head _)
    unfold wsum at ih ⊢
    rw [List.map_cons, List.sum_cons]
    split <;> omega
theorem wsum_le_tot {S : Int → Bool} : ∀ {rs : List (Int × Int)}, (∀ r ∈ rs, 0 ≤ r.2) → wsum S rs ≤ tot rs
  | [], _ => by simp [wsum, tot]
  | r :: rs, h => by
    have ih := wsum_le_tot (S := S) (rs := rs) fun x hx => h x (.tail _ hx)
    have h0 := h r (.head _)
    unfold wsum tot at ih ⊢
    rw [List.map_cons, List.sum_cons, List.map_cons, List.sum_cons]
    split <;> omega
theorem wls_pos : ∀ {L : List Lv}, (∀ p ∈ pw L, 1 ≤ p.a ∧ 1 ≤ p.b ∧ 1 ≤ p.w) → ∀ r ∈ wls L, 1 ≤ r.2
  | [], _, r, h => by
    unfold wls at h
    rw [wl] at h
    cases h
  | [(k, bs)], _, r, h => by
    rw [wls_one] at h
    obtain ⟨b, _, rfl⟩ := List.mem_map.mp h
    exact Int.le_refl 1
  | (k, bs) :: l :: L, hp, r, h => by
    obtain ⟨p, R, e⟩ := pw_ne l L
    rw [wls_more k bs e] at h
    rw [pw_more k bs e] at hp
    rcases List.mem_append.mp h with h | h
    · obtain ⟨b, _, rfl⟩ := List.mem_map.mp h
      exact (hp _ (.head _)).2.2
    · exact wls_pos (L := l :: L) (fun q hq => hp q (.tail _ (by rw [← e]; exact hq))) r h
theorem pw_pos : ∀ {L : List Lv}, Ok L → ∀ p ∈ pw L, 1 ≤ p.a ∧ 1 ≤ p.b ∧ 1 ≤ p.w
  | [], h, _, _ => False.elim h
  | [(k, bs)], h, p, hp => by
    have h : 1 ≤ k ∧ k ≤ (bs.length : Int) := h
    rw [pw_one] at hp
    have e := List.mem_singleton.mp hp
    subst e
    exact ⟨h.1, by show 1 ≤ (bs.length : Int) - k + 1; omega, Int.le_refl 1⟩
  | (k, bs) :: l :: L, h, p, hp => by
    have h : 1 ≤ k ∧ k ≤ (bs.length : Int) + 1 ∧ 1 ≤ bs.length ∧ Ok (l :: L) := h
    obtain ⟨q, R, e⟩ := pw_ne l L
    have ih := pw_pos h.2.2.2
    rw [pw_more k bs e] at hp
    rw [e] at ih
    rcases List.mem_cons.mp hp with rfl | hp
    · obtain ⟨q1, q2, q3⟩ := ih q (.head _)
      have hv := wt_pos (k := k) (s := bs.length) q1 q2
      have m1 := Int.mul_nonneg (show 0 ≤ k - 1 by omega) (show 0 ≤ wt k bs.length q.a q.b by omega)
      have m2 := Int.mul_nonneg (show 0 ≤ (bs.length : Int) - k + 1 by omega) (show 0 ≤ wt k bs.length q.a q.b by omega)
      exact ⟨by show 1 ≤ q.a + _; omega, by show 1 ≤ q.b + _; omega, hv⟩
    · exact ih p hp
theorem tells : ∀ {L : List Lv}, Ok L → ∀ {p R}, pw L = p :: R → Tells L p
  | [], h, _, _, _ => False.elim h
  | [(k, bs)], h, p, R, hp => by
    have po := pw_pos h p (by rw [hp]; exact .head _)
    have h : 1 ≤ k ∧ k ≤ (bs.length : Int) := h
    rw [pw_one] at hp
    injection hp with e _
    subst e
    refine ⟨po.1, po.2.1, po.2.2, ?_, fun S g => ?_, fun S g => ?_⟩
    · rw [wls_one, tot_level]
      show (bs.length : Int) * 1 + 1 = k + ((bs.length : Int) - k + 1)
      omega
    · rw [goesL, goesL] at g
      have g := of_decide_eq_true g
      rw [wls_one, wsum_level]
      show k ≤ _
      simp only [Bool.false_eq_true, if_false] at g
      omega
    · rw [goesL, goesL] at g
      have g := of_decide_eq_false g
      rw [wls_one, wsum_level, tot_level]
      show _ ≤ (bs.length : Int) * 1 - ((bs.length : Int) - k + 1)
      simp only [Bool.false_eq_true, if_false] at g
      omega
  | (k, bs) :: l :: L, h, p, R, hp => by
    have po := pw_pos h p (by rw [hp]; exact .head _)
    have h : 1 ≤ k ∧ k ≤ (bs.length : Int) + 1 ∧ 1 ≤ bs.length ∧ Ok (l :: L) := h
    obtain ⟨q, R', e⟩ := pw_ne l L
    have ih := tells h.2.2.2 e
    have hpos := wls_pos (pw_pos h.2.2.2)
    have hnn : ∀ r ∈ wls (l :: L), 0 ≤ r.2 := fun r hr => by have := hpos r hr; omega
    rw [pw_more k bs e] at hp
    injection hp with e2 _
    subst e2
    have hv : 1 ≤ wt k bs.length q.a q.b := wt_pos ih.a ih.b
    have isum := ih.sum
    refine ⟨po.1, po.2.1, po.2.2, ?_, fun S g => ?_, fun S g => ?_⟩
    · rw [wls_more k bs e, tot_append, tot_level]
      show _ = q.a + (k - 1) * wt k bs.length q.a q.b + (q.b + ((bs.length : Int) - k + 1) * wt k bs.length q.a q.b)
      rw [Int.sub_mul, Int.add_mul, Int.sub_mul]
      omega
    · rw [goesL] at g
      have g := of_decide_eq_true g
      rw [wls_more k bs e, wsum_append, wsum_level]
      show q.a + (k - 1) * wt k bs.length q.a q.b ≤ _
      have hc : bs.countP S ≤ bs.length := List.countP_le_length
      have inn := wsum_nonneg (S := S) hnn
      by_cases c : k ≤ ((bs.countP S : Nat) : Int)
      · have va := wt_a (k := k) (s := bs.length) (a := q.a) (b := q.b) h.1 (by omega)
        have m := mul_mono (x := k - 1 + 1) (y := ((bs.countP S : Nat) : Int)) (v := wt k bs.length q.a q.b) (by omega) (by omega)
        rw [Int.add_mul] at m
        omega
      · by_cases gi : goesL S (l :: L) = true
        · have y := ih.yes S gi
          rw [if_pos gi] at g
          have m := mul_mono (x := k - 1) (y := ((bs.countP S : Nat) : Int)) (v := wt k bs.length q.a q.b) (by omega) (by omega)
          omega
        · rw [if_neg gi] at g
          omega
    · rw [goesL] at g
      have g := of_decide_eq_false g
      rw [wls_more k bs e, wsum_append, wsum_level, tot_append, tot_level]
      show _ ≤ (bs.length : Int) * wt k bs.length q.a q.b + tot (wls (l :: L)) - (q.b + ((bs.length : Int) - k + 1) * wt k bs.length q.a q.b)
      have e3 : ((bs.length : Int) - k + 1) * wt k bs.length q.a q.b = (bs.length : Int) * wt k bs.length q.a q.b - (k - 1) * wt k bs.length q.a q.b := by
        rw [← Int.sub_mul]
        exact congrArg (· * _) (by omega)
      rw [e3]
      by_cases gi : goesL S (l :: L) = true
      · rw [if_pos gi] at g
        have lt := wsum_le_tot (S := S) hnn
        have vb := wt_b (k := k) (s := bs.length) (a := q.a) (b := q.b) (by omega)
        have m := mul_mono (x := ((bs.countP S : Nat) : Int) + 1) (y := k - 1) (v := wt k bs.length q.a q.b) (by omega) (by omega)
        rw [Int.add_mul] at m
        omega
      · rw [if_neg gi] at g
        have n := ih.no S (by simpa using gi)
        have m := mul_mono (x := ((bs.countP S : Nat) : Int)) (y := k - 1) (v := wt k bs.length q.a q.b) (by omega) (by omega)
        omega
/-- the scale tells what the nest tells -/
theorem scale_goes {t : Tr} {L : List Lv} (h : Lvs t L) (o : Ok L) {p : Pw} {R : List Pw} (e : pw L = p :: R) (S : Int → Bool) : goes S t = decide (p.a ≤ wsum S (wls L)) := by
  rw [lvs_goes S h]
  have T := tells o e
  cases g : goesL S L with
  | true => exact (decide_eq_true (T.yes S g)).symm
  | false =>
    have := T.no S g
    have := T.sum
    exact (decide_eq_false (by omega)).symm
theorem cast_lt {n m : Nat} (h : n + 1 ≤ 2 ^ m) : (n : Int) + 1 ≤ 2 ^ m := by
  have q : ((n + 1 : Nat) : Int) ≤ ((2 ^ m : Nat) : Int) := Int.ofNat_le.mpr h
  rw [Int.natCast_pow, Int.natCast_add] at q
  exact q
/-- how great they can be -/
theorem pw_bound : ∀ {L : List Lv}, Ok L → ∀ p ∈ pw L, p.a + p.b ≤ 2 ^ (L.flatMap (·.2)).length ∧ p.w ≤ 2 ^ (L.flatMap (·.2)).length
  | [], h, _, _ => False.elim h
  | [(k, bs)], h, p, hp => by
    rw [pw_one] at hp
    have e := List.mem_singleton.mp hp
    subst e
    have hl : bs.length + 1 ≤ 2 ^ bs.length := Nat.lt_two_pow_self
    have hl' : ((bs.length : Nat) : Int) + 1 ≤ 2 ^ bs.length := cast_lt hl
    simp only [List.flatMap_cons, List.flatMap_nil, List.append_nil]
    constructor <;> omega
  | (k, bs) :: l :: L, h, p, hp => by
    have po := pw_pos h
    have h : 1 ≤ k ∧ k ≤ (bs.length : Int) + 1 ∧ 1 ≤ bs.length ∧ Ok (l :: L) := h
    obtain ⟨q, R', e⟩ := pw_ne l L
    have ih := pw_bound h.2.2.2
    have hl : bs.length + 1 ≤ 2 ^ bs.length := Nat.lt_two_pow_self
    have hl' : ((bs.length : Nat) : Int) + 1 ≤ 2 ^ bs.length := cast_lt hl
    have e0 : (((k, bs) :: l :: L).flatMap (·.2)).length = bs.length + ((l :: L).flatMap (·.2)).length := by rw [List.flatMap_cons, List.length_append]
    rw [e0, Int.pow_add]
    rw [pw_more k bs e] at hp po
    rw [e] at ih
    have g0 : (0 : Int) ≤ 2 ^ ((l :: L).flatMap (·.2)).length := Int.pow_nonneg (by decide)
    have grow : (2 : Int) ^ ((l :: L).flatMap (·.2)).length ≤ 2 ^ bs.length * 2 ^ ((l :: L).flatMap (·.2)).length := by
      have := mul_mono (x := 1) (y := 2 ^ bs.length) (v := 2 ^ ((l :: L).flatMap (·.2)).length) (by omega) g0
      omega
    rcases List.mem_cons.mp hp with rfl | hp
    · obtain ⟨q1, q2, q3⟩ := po q (.tail _ (.head _))
      have iq := ih q (.head _)
      have hw : wt k bs.length q.a q.b ≤ q.a + q.b := by
        unfold wt
        split
        · omega
        · split
          · rw [Int.max_def]
            split <;> omega
          · omega
      have e1 : (q.a + (k - 1) * wt k bs.length q.a q.b) + (q.b + ((bs.length : Int) - k + 1) * wt k bs.length q.a q.b) = (q.a + q.b) + (bs.length : Int) * wt k bs.length q.a q.b := by
        rw [Int.sub_mul, Int.add_mul, Int.sub_mul]
        omega
      have m1 : (bs.length : Int) * wt k bs.length q.a q.b ≤ (bs.length : Int) * (q.a + q.b) := Int.mul_le_mul_of_nonneg_left hw (by omega)
      have m2 : (q.a + q.b) * ((bs.length : Int) + 1) ≤ 2 ^ ((l :: L).flatMap (·.2)).length * 2 ^ bs.length := Int.mul_le_mul iq.1 hl' (by omega) g0
      rw [Int.mul_add, Int.mul_comm (q.a + q.b)] at m2
      rw [Int.mul_comm (2 ^ bs.length)] at *
      refine ⟨?_, ?_⟩
      · show (q.a + _) + (q.b + _) ≤ _
        omega
      · show wt k bs.length q.a q.b ≤ _
        omega
    · have := ih p hp
      omega
end Ks
/-! No other weights tell the same lots with a lesser weight or bound. -/
namespace Ks
/-- the sum of the buttons in S, by other weights -/
def vs (v : Int → Int) (S : Int → Bool) (bs : List Int) : Int := (bs.map fun b => if S b = true then v b else 0).sum
def va (v : Int → Int) (bs : List Int) : Int := (bs.map v).sum
theorem vs_append (v : Int → Int) (S : Int → Bool) (a b : List Int) : vs v S (a ++ b) = vs v S a + vs v S b := by
  unfold vs
  rw [List.map_append, List.sum_append]
theorem va_append (v : Int → Int) (a b : List Int) : va v (a ++ b) = va v a + va v b := by
  unfold va
  rw [List.map_append, List.sum_append]
theorem vs_cons (v : Int → Int) (S : Int → Bool) (b : Int) (r : List Int) : vs v S (b :: r) = (if S b = true then v b else 0) + vs v S r := by
  unfold vs
  rw [List.map_cons, List.sum_cons]
theorem va_cons (v : Int → Int) (b : Int) (r : List Int) : va v (b :: r) = v b + va v r := by
  unfold va
  rw [List.map_cons, List.sum_cons]
theorem vs_congr {v : Int → Int} {S S' : Int → Bool} : ∀ {bs : List Int}, (∀ b ∈ bs, S b = S' b) → vs v S bs = vs v S' bs
  | [], _ => rfl
  | b :: r, h => by rw [vs_cons, vs_cons, h b (.head _), vs_congr fun x hx => h x (.tail _ hx)]
theorem countP_congrB {S S' : Int → Bool} {bs : List Int} (h : ∀ b ∈ bs, S b = S' b) : bs.countP S = bs.countP S' := List.countP_congr fun b hb => by rw [h b hb]
theorem goesL_congr {S S' : Int → Bool} : ∀ {L : List Lv}, (∀ b ∈ L.flatMap (·.2), S b = S' b) → goesL S L = goesL S' L
  | [], _ => rfl
  | (k, bs) :: L, h => by
    rw [List.flatMap_cons] at h
    rw [goesL, goesL, goesL_congr fun b hb => h b (List.mem_append_right _ hb), countP_congrB fun b hb => h b (List.mem_append_left _ hb)]
theorem vs_none {v : Int → Int} {S : Int → Bool} : ∀ {bs : List Int}, (∀ b ∈ bs, S b = false) → vs v S bs = 0
  | [], _ => rfl
  | b :: r, h => by rw [vs_cons, h b (.head _), vs_none fun x hx => h x (.tail _ hx)]; rfl
theorem vs_all {v : Int → Int} {S : Int → Bool} : ∀ {bs : List Int}, (∀ b ∈ bs, S b = true) → vs v S bs = va v bs
  | [], _ => rfl
  | b :: r, h => by rw [vs_cons, va_cons, h b (.head _), vs_all fun x hx => h x (.tail _ hx), if_pos rfl]

/-! ### lots of a level -/
/-- so many of a level's buttons -/
theorem pick : ∀ (bs : List Int), bs.Nodup → ∀ m, m ≤ bs.length → ∃ S : Int → Bool, bs.countP S = m ∧ ∀ b, S b = true → b ∈ bs
  | [], _, m, h => ⟨fun _ => false, (by rw [List.countP_nil]; simp only [List.length_nil] at h; omega), fun b h => nomatch h⟩
  | b :: r, nd, 0, _ => ⟨fun _ => false, (by rw [List.countP_eq_zero]; exact fun a _ h => nomatch h), fun b h => nomatch h⟩
  | b :: r, nd, m + 1, h => by
    obtain ⟨hb, nr⟩ := List.nodup_cons.mp nd
    obtain ⟨S, hS, hm⟩ := pick r nr m (by simp only [List.length_cons] at h; omega)
    refine ⟨fun x => decide (x = b) || S x, ?_, fun x hx => ?_⟩
    · rw [List.countP_cons]
      have e : r.countP (fun x => decide (x = b) || S x) = r.countP S := countP_congrB fun x hx => by
        have : x ≠ b := fun z => hb (z ▸ hx)
        simp [this]
      rw [e, hS]
      simp
    · simp only [Bool.or_eq_true, decide_eq_true_eq] at hx
      rcases hx with rfl | hx
      · exact .head _
      · exact .tail _ (hm x hx)
/-- so many of a level's buttons without one -/
theorem pick_but {bs : List Int} (nd : bs.Nodup) {i : Int} (hi : i ∈ bs) {m : Nat} (hm : m + 1 ≤ bs.length) : ∃ S : Int → Bool, bs.countP S = m ∧ S i = false ∧ ∀ b, S b = true → b ∈ bs := by
  obtain ⟨S, h1, h2⟩ := pick (bs.erase i) (nd.erase i) m (by rw [List.length_erase_of_mem hi]; omega)
  have hS : S i = false := by
    cases q : S i with
    | false => rfl
    | true => exact absurd (h2 i q) (List.Nodup.not_mem_erase nd)
  refine ⟨S, ?_, hS, fun b hb => List.mem_of_mem_erase (h2 b hb)⟩
  rw [(List.perm_cons_erase hi).countP_eq, List.countP_cons, h1, hS]
  rfl
theorem count_add {bs : List Int} (nd : bs.Nodup) {i : Int} (hi : i ∈ bs) {S : Int → Bool} (h : S i = false) : bs.countP (fun x => decide (x = i) || S x) = bs.countP S + 1 := by
  have p := List.perm_cons_erase hi
  rw [p.countP_eq, p.countP_eq, List.countP_cons, List.countP_cons, h]
  have e : (bs.erase i).countP (fun x => decide (x = i) || S x) = (bs.erase i).countP S := countP_congrB fun x hx => by
    have : x ≠ i := fun z => List.Nodup.not_mem_erase nd (z ▸ hx)
    simp [this]
  rw [e]
  simp
theorem sum_perm {a b : List Int} (h : a.Perm b) : a.sum = b.sum := by
  induction h with
  | nil => rfl
  | cons x _ ih => rw [List.sum_cons, List.sum_cons, ih]
  | swap x y l =>
    rw [List.sum_cons, List.sum_cons, List.sum_cons, List.sum_cons]
    omega
  | trans _ _ a b => exact a.trans b
theorem vs_perm {v : Int → Int} {S : Int → Bool} {a b : List Int} (h : a.Perm b) : vs v S a = vs v S b := sum_perm (h.map fun b => if S b = true then v b else 0)
theorem vs_add {v : Int → Int} {bs : List Int} (nd : bs.Nodup) {i : Int} (hi : i ∈ bs) {S : Int → Bool} (h : S i = false) : vs v (fun x => decide (x = i) || S x) bs = vs v S bs + v i := by
  have p := List.perm_cons_erase hi
  rw [vs_perm p, vs_perm p, vs_cons, vs_cons, h]
  have e : vs v (fun x => decide (x = i) || S x) (bs.erase i) = vs v S (bs.erase i) := vs_congr fun x hx => by
    have : x ≠ i := fun z => List.Nodup.not_mem_erase nd (z ▸ hx)
    simp [this]
  rw [e]
  simp
  omega
/-- m buttons of at least c each -/
theorem vs_ge {v : Int → Int} {S : Int → Bool} {c : Int} : ∀ {bs : List Int}, (∀ b ∈ bs, c ≤ v b) → ((bs.countP S : Nat) : Int) * c ≤ vs v S bs
  | [], _ => by simp [vs]
  | b :: r, h => by
    have ih := vs_ge (v := v) (S := S) (c := c) (bs := r) fun x hx => h x (.tail _ hx)
    have h0 := h b (.head _)
    rw [vs_cons, List.countP_cons]
    by_cases g : S b = true
    · rw [if_pos g, if_pos g, Int.natCast_add, Int.add_mul]
      omega
    · rw [if_neg g, if_neg g, Nat.add_zero (r.countP S)]
      omega
theorem va_vs {v : Int → Int} {S : Int → Bool} {c : Int} : ∀ {bs : List Int}, (∀ b ∈ bs, c ≤ v b) → ((bs.length : Int) - ((bs.countP S : Nat) : Int)) * c ≤ va v bs - vs v S bs
  | [], _ => by simp [vs, va]
  | b :: r, h => by
    have ih := va_vs (v := v) (S := S) (c := c) (bs := r) fun x hx => h x (.tail _ hx)
    have h0 := h b (.head _)
    rw [vs_cons, va_cons, List.countP_cons, List.length_cons]
    by_cases g : S b = true
    · rw [if_pos g, if_pos g, Int.natCast_add, Int.natCast_add]
      have : ((r.length : Int) + ((1 : Nat) : Int) - (((r.countP S : Nat) : Int) + ((1 : Nat) : Int))) = (r.length : Int) - ((r.countP S : Nat) : Int) := by omega
      rw [this]
      omega
    · rw [if_neg g, if_neg g, Nat.add_zero (r.countP S), Int.natCast_add]
      have : ((r.length : Int) + ((1 : Nat) : Int) - ((r.countP S : Nat) : Int)) = ((r.length : Int) - ((r.countP S : Nat) : Int)) + 1 := by omega
      rw [this, Int.add_mul]
      omega

/-- a lot of a level and a lot of what is within -/
def join (bs : List Int) (A S : Int → Bool) : Int → Bool := fun b => if b ∈ bs then A b else S b
structure Least (v : Int → Int) (L : List Lv) (p : Pw) : Prop where
  fail : ∃ S, goesL S L = false ∧ p.a ≤ vs v S (L.flatMap (·.2)) + 1
  go : ∃ S, goesL S L = true ∧ p.b ≤ va v (L.flatMap (·.2)) - vs v S (L.flatMap (·.2)) + 1
  each : ∀ r ∈ wls L, r.2 ≤ v r.1
def Sep (v : Int → Int) (L : List Lv) : Prop := ∀ S S', goesL S L = true → goesL S' L = false → vs v S' (L.flatMap (·.2)) < vs v S (L.flatMap (·.2))
theorem least : ∀ {v : Int → Int} {L : List Lv}, Ok L → (L.flatMap (·.2)).Nodup → Sep v L → ∀ {p R}, pw L = p :: R → Least v L p
  | _, [], h, _, _, _, _, _ => False.elim h
  | v, [(k, bs)], h, nd, sep, p, R, hp => by
    have h : 1 ≤ k ∧ k ≤ (bs.length : Int) := h
    have ef : ([(k, bs)] : List Lv).flatMap (·.2) = bs := by simp
    have eg : ∀ S, goesL S [(k, bs)] = decide (k ≤ ((bs.countP S : Nat) : Int)) := fun S => by
      rw [goesL, goesL]
      simp
    rw [ef] at nd
    rw [pw_one] at hp
    injection hp with e _
    subst e
    have each : ∀ i ∈ bs, 1 ≤ v i := fun i hi => by
      obtain ⟨S, h1, h2, _⟩ := pick_but nd hi (m := (k - 1).toNat) (by omega)
      have g1 : goesL S [(k, bs)] = false := by
        rw [eg, h1]
        exact decide_eq_false (by omega)
      have g2 : goesL (fun x => decide (x = i) || S x) [(k, bs)] = true := by
        rw [eg, count_add nd hi h2, h1]
        exact decide_eq_true (by omega)
      have q := sep _ _ g2 g1
      rw [ef, vs_add nd hi h2] at q
      omega
    refine ⟨?_, ?_, fun r hr => ?_⟩
    · obtain ⟨S, h1, _⟩ := pick bs nd (k - 1).toNat (by omega)
      refine ⟨S, ?_, ?_⟩
      · rw [eg, h1]
        exact decide_eq_false (by omega)
      · rw [ef]
        have q := vs_ge (v := v) (S := S) (c := 1) each
        rw [h1] at q
        show k ≤ _
        omega
    · obtain ⟨S, h1, _⟩ := pick bs nd k.toNat (by omega)
      refine ⟨S, ?_, ?_⟩
      · rw [eg, h1]
        exact decide_eq_true (by omega)
      · rw [ef]
        have q := va_vs (v := v) (S := S) (c := 1) each
        rw [h1] at q
        show (bs.length : Int) - k + 1 ≤ _
        omega
    · rw [wls_one] at hr
      obtain ⟨b, hb, rfl⟩ := List.mem_map.mp hr
      exact each b hb
  | v, (k, bs) :: l :: L, h, nd, sep, p, R, hp => by
    have h : 1 ≤ k ∧ k ≤ (bs.length : Int) + 1 ∧ 1 ≤ bs.length ∧ Ok (l :: L) := h
    obtain ⟨q, R', e⟩ := pw_ne l L
    have T := tells h.2.2.2 e
    have ef : ((k, bs) :: l :: L : List Lv).flatMap (·.2) = bs ++ (l :: L).flatMap (·.2) := List.flatMap_cons
    generalize hM : l :: L = M at *
    rw [ef] at nd
    obtain ⟨nb, nM, dis⟩ := List.nodup_append.mp nd
    have dis : ∀ b ∈ M.flatMap (·.2), b ∉ bs := fun b hb hb' => dis b hb' b hb rfl
    -- a lot put together
    have jg : ∀ A S, goesL (join bs A S) ((k, bs) :: M) = decide (k ≤ ((bs.countP A : Nat) : Int) + (if goesL S M = true then 1 else 0)) := fun A S => by
      rw [goesL, goesL_congr (S := join bs A S) (S' := S) fun b hb => if_neg (dis b hb), countP_congrB (S := join bs A S) (S' := A) fun b hb => if_pos hb]
    have jv : ∀ A S, vs v (join bs A S) (((k, bs) :: M).flatMap (·.2)) = vs v A bs + vs v S (M.flatMap (·.2)) := fun A S => by
      rw [ef, vs_append, vs_congr (S := join bs A S) (S' := A) fun b hb => if_pos hb, vs_congr (S := join bs A S) (S' := S) fun b hb => if_neg (dis b hb)]
    have sepM : Sep v M := fun S S' g g' => by
      obtain ⟨A, h1, _⟩ := pick bs nb (k - 1).toNat (by omega)
      have z := sep (join bs A S) (join bs A S') (by
        rw [jg, h1, if_pos g]
        exact decide_eq_true (by omega)) (by
        rw [jg, h1, g']
        exact decide_eq_false (by simp; omega))
      rw [jv, jv] at z
      omega
    have ih := least h.2.2.2 nM sepM e
    obtain ⟨SF, gF, vF⟩ := ih.fail
    obtain ⟨SG, gG, vG⟩ := ih.go
    -- each button of the level
    have eachA : ∀ i ∈ bs, k ≤ (bs.length : Int) → q.a ≤ v i := fun i hi hk => by
      obtain ⟨A, h1, h2, _⟩ := pick_but nb hi (m := (k - 1).toNat) (by omega)
      have z := sep (join bs (fun x => decide (x = i) || A x) fun _ => false) (join bs A SF) (by
        rw [jg, count_add nb hi h2, h1]
        exact decide_eq_true (by split <;> omega)) (by
        rw [jg, h1, gF]
        exact decide_eq_false (by simp; omega))
      rw [jv, jv, vs_add nb hi h2, vs_none (S := fun _ => false) (bs := M.flatMap (·.2)) fun _ _ => rfl] at z
      omega
    have eachB : ∀ i ∈ bs, 2 ≤ k → q.b ≤ v i := fun i hi hk => by
      obtain ⟨A, h1, h2, _⟩ := pick_but nb hi (m := (k - 2).toNat) (by omega)
      have z := sep (join bs (fun x => decide (x = i) || A x) SG) (join bs A fun _ => true) (by
        rw [jg, count_add nb hi h2, h1, if_pos gG]
        exact decide_eq_true (by omega)) (by
        rw [jg, h1]
        exact decide_eq_false (by split <;> omega))
      rw [jv, jv, vs_add nb hi h2, vs_all (S := fun _ => true) (bs := M.flatMap (·.2)) fun _ _ => rfl] at z
      omega
    have each : ∀ i ∈ bs, wt k bs.length q.a q.b ≤ v i := fun i hi => by
      unfold wt
      split
      · exact eachA i hi (by omega)
      · split
        · have := eachA i hi (by omega)
          have := eachB i hi (by omega)
          rw [Int.max_def]
          split <;> omega
        · exact eachB i hi (by omega)
    rw [pw_more k bs e] at hp
    injection hp with e2 _
    subst e2
    refine ⟨?_, ?_, fun r hr => ?_⟩
    · obtain ⟨A, h1, _⟩ := pick bs nb (k - 1).toNat (by omega)
      refine ⟨join bs A SF, ?_, ?_⟩
      · rw [jg, h1, gF]
        exact decide_eq_false (by simp; omega)
      · rw [jv]
        have z := vs_ge (v := v) (S := A) each
        rw [h1, show (((k - 1).toNat : Nat) : Int) = k - 1 by omega] at z
        show q.a + (k - 1) * wt k bs.length q.a q.b ≤ _
        omega
    · obtain ⟨A, h1, _⟩ := pick bs nb (k - 1).toNat (by omega)
      refine ⟨join bs A SG, ?_, ?_⟩
      · rw [jg, h1, if_pos gG]
        exact decide_eq_true (by omega)
      · rw [jv, ef, va_append]
        have z := va_vs (v := v) (S := A) each
        rw [h1, show (bs.length : Int) - (((k - 1).toNat : Nat) : Int) = (bs.length : Int) - k + 1 by omega] at z
        show q.b + ((bs.length : Int) - k + 1) * wt k bs.length q.a q.b ≤ _
        omega
    · rw [wls_more k bs e] at hr
      rcases List.mem_append.mp hr with hr | hr
      · obtain ⟨b, hb, rfl⟩ := List.mem_map.mp hr
        exact each b hb
      · exact ih.each r hr
end Ks
/-! Lots as the bits of numbers; rows in order; what the law asks of them. -/
namespace Ks
/-! ### the marks -/
def full (n : Nat) : Nat := 2 ^ 2 ^ n - 1
def mark (n k : Nat) : Nat := full n / (2 ^ 2 ^ k + 1) * 2 ^ 2 ^ k
def marksOk : Bool := (List.range 9).all fun n => (List.range n).all fun k => decide (mark n k < 2 ^ 2 ^ n) && (List.range (2 ^ n)).all fun j => (mark n k).testBit j == j.testBit k
theorem marks_ok : marksOk = true := by decide +kernel
/-- so many bits, told by f -/
def Bits (N : Nat) (f : Nat → Bool) (m : Nat) : Prop := m < 2 ^ N ∧ ∀ j, j < N → m.testBit j = f j
theorem mark_bits {n k : Nat} (hn : n ≤ 8) (hk : k < n) : Bits (2 ^ n) (fun j => j.testBit k) (mark n k) := by
  have h := marks_ok
  unfold marksOk at h
  rw [List.all_eq_true] at h
  have h1 := h n (List.mem_range.mpr (by omega))
  rw [List.all_eq_true] at h1
  have h2 := h1 k (List.mem_range.mpr hk)
  rw [Bool.and_eq_true, List.all_eq_true] at h2
  exact ⟨of_decide_eq_true h2.1, fun j hj => eq_of_beq (h2.2 j (List.mem_range.mpr hj))⟩
theorem full_bits (n : Nat) : Bits (2 ^ n) (fun _ => true) (full n) := by
  refine ⟨?_, fun j hj => ?_⟩
  · unfold full
    have := Nat.two_pow_pos (2 ^ n)
    omega
  · unfold full
    rw [Nat.testBit_two_pow_sub_one]
    exact decide_eq_true hj
theorem Bits.zero (N : Nat) : Bits N (fun _ => false) 0 := ⟨Nat.two_pow_pos N, fun j _ => Nat.zero_testBit j⟩
theorem Bits.congr {N m : Nat} {f g : Nat → Bool} (h : Bits N f m) (e : ∀ j, j < N → f j = g j) : Bits N g m := ⟨h.1, fun j hj => (h.2 j hj).trans (e j hj)⟩
theorem Bits.step {N x y z : Nat} {f g h : Nat → Bool} (hx : Bits N f x) (hy : Bits N g y) (hz : Bits N h z) : Bits N (fun j => f j || (g j && h j)) (x ||| (y &&& z)) := by
  refine ⟨Nat.or_lt_two_pow hx.1 (Nat.and_lt_two_pow y hz.1), fun j hj => ?_⟩
  rw [Nat.testBit_or, Nat.testBit_and, hx.2 j hj, hy.2 j hj, hz.2 j hj]
/-- a bit, as the law asks for it -/
theorem bit_val (m j : Nat) : m / 2 ^ j % 2 = if m.testBit j = true then 1 else 0 := by
  rw [Nat.testBit_eq_decide_div_mod_eq]
  have := Nat.mod_lt (m / 2 ^ j) (show 0 < 2 by decide)
  by_cases h : m / 2 ^ j % 2 = 1
  · simp [h]
  · simp only [h, decide_false, Bool.false_eq_true, if_false]
    omega

/-! ### the lot with a number -/
def lotOf (B : List Int) (j : Nat) : Int → Bool := fun b => decide (b ∈ B) && j.testBit (B.idxOf b)
theorem idxOf_at {B : List Int} (nd : B.Nodup) {i : Nat} {b : Int} (h : B[i]? = some b) : B.idxOf b = i := by
  have hi : i < B.length := (List.getElem?_eq_some_iff.mp h).1
  have e : B[i] = b := (List.getElem?_eq_some_iff.mp h).2
  rw [← e]
  exact nd.idxOf_getElem i hi
theorem lot_at {B : List Int} (nd : B.Nodup) (j : Nat) {i : Nat} {b : Int} (h : B[i]? = some b) : lotOf B j b = j.testBit i := by
  unfold lotOf
  rw [idxOf_at nd h, decide_eq_true (List.mem_of_getElem? h), Bool.true_and]
/-- any lot has a number -/
theorem some_lot (f : Nat → Bool) : ∀ n, ∃ j, j < 2 ^ n ∧ ∀ i, i < n → j.testBit i = f i
  | 0 => ⟨0, by decide, fun i hi => absurd hi (Nat.not_lt_zero i)⟩
  | n + 1 => by
    obtain ⟨j, hj, h⟩ := some_lot f n
    cases q : f n with
    | false =>
      refine ⟨j, by rw [Nat.pow_succ]; omega, fun i hi => ?_⟩
      by_cases e : i = n
      · subst e
        rw [Nat.testBit_lt_two_pow hj, q]
      · exact h i (by omega)
    | true =>
      refine ⟨2 ^ n + j, by rw [Nat.pow_succ]; omega, fun i hi => ?_⟩
      by_cases e : i = n
      · subst e
        rw [Nat.testBit_two_pow_add_eq, Nat.testBit_lt_two_pow hj, q]
        rfl
      · rw [Nat.testBit_two_pow_add_gt (by omega)]
        exact h i (by omega)

/-! ### the sums of all lots -/
def bsum (ws : List Int) (j : Nat) : Int := (ws.zipIdx.map fun p => if j.testBit p.2 = true then p.1 else 0).sum
def sumsL (ws : List Int) : List Int := ws.foldl (fun acc w => acc ++ acc.map (· + w)) [0]
theorem sumsL_snoc (ws : List Int) (w : Int) : sumsL (ws ++ [w]) = sumsL ws ++ (sumsL ws).map (· + w) := by
  unfold sumsL
  rw [List.foldl_append]
  rfl
theorem sumsL_nil : sumsL [] = [0] := rfl
theorem snoc_ind {P : List Int → Prop} (h0 : P []) (h1 : ∀ l a, P l → P (l ++ [a])) (l : List Int) : P l := by
  have : ∀ r : List Int, P r.reverse := fun r => by
    induction r with
    | nil => exact h0
    | cons a r ih =>
      rw [List.reverse_cons]
      exact h1 _ _ ih
  have h := this l.reverse
  rw [List.reverse_reverse] at h
  exact h
theorem sumsL_len (ws : List Int) : (sumsL ws).length = 2 ^ ws.length := by
  refine snoc_ind (P := fun ws => (sumsL ws).length = 2 ^ ws.length) rfl (fun l a ih => ?_) ws
  rw [sumsL_snoc, List.length_append, List.length_map, ih, List.length_append, Nat.pow_add]
  show _ = 2 ^ l.length * 2 ^ 1
  omega
theorem bsum_snoc (ws : List Int) (w : Int) (j : Nat) : bsum (ws ++ [w]) j = bsum ws j + if j.testBit ws.length = true then w else 0 := by
  unfold bsum
  rw [List.zipIdx_append, List.map_append, List.sum_append]
  simp
theorem bsum_congr {ws : List Int} {i j : Nat} (h : ∀ k, k < ws.length → i.testBit k = j.testBit k) : bsum ws i = bsum ws j := by
  unfold bsum
  refine congrArg List.sum (List.map_congr_left fun p hp => ?_)
  have hk : p.2 < ws.length := by
    have := (List.mem_zipIdx (x := p.1) (i := p.2) (k := 0) hp).2.1
    omega
  rw [h p.2 hk]
theorem sumsL_at (ws : List Int) : ∀ j, j < 2 ^ ws.length → (sumsL ws)[j]? = some (bsum ws j) := by
  refine snoc_ind (P := fun ws => ∀ j, j < 2 ^ ws.length → (sumsL ws)[j]? = some (bsum ws j)) (fun j hj => ?_) (fun l a ih j hj => ?_) ws
  · have : j = 0 := by
      simp only [List.length_nil, Nat.pow_zero] at hj
      omega
    subst this
    rfl
  · rw [List.length_append, Nat.pow_add] at hj
    have hj : j < 2 ^ l.length * 2 ^ 1 := hj
    rw [sumsL_snoc, bsum_snoc]
    have hl := sumsL_len l
    by_cases c : j < 2 ^ l.length
    · rw [List.getElem?_append_left (by omega), ih j c, Nat.testBit_lt_two_pow c]
      simp
    · obtain ⟨i, rfl⟩ : ∃ i, j = 2 ^ l.length + i := ⟨j - 2 ^ l.length, by omega⟩
      have hi : i < 2 ^ l.length := by omega
      rw [List.getElem?_append_right (by omega), hl, Nat.add_sub_cancel_left, List.getElem?_map, ih i hi, Nat.testBit_two_pow_add_eq, Nat.testBit_lt_two_pow hi]
      rw [bsum_congr (ws := l) (i := 2 ^ l.length + i) (j := i) fun k hk => Nat.testBit_two_pow_add_gt hk i]
      simp
/-- the sum by the lot with a number -/
theorem bsum_rows {rs : List (Int × Int)} (nd : (rs.map (·.1)).Nodup) (j : Nat) : bsum (rs.map (·.2)) j = wsum (lotOf (rs.map (·.1)) j) rs := by
  unfold bsum wsum
  refine congrArg List.sum (List.ext_getElem (by simp) fun i h1 h2 => ?_)
  have hi : i < rs.length := by simpa using h2
  simp only [List.getElem_map, List.getElem_zipIdx]
  have e : (rs.map (·.1))[i]? = some (rs[i]).1 := by
    rw [List.getElem?_map, List.getElem?_eq_getElem hi]
    rfl
  rw [lot_at nd j e, Nat.zero_add]
theorem bsum_zip {B : List Int} (nd : B.Nodup) {ws : List Int} (hl : ws.length = B.length) (j : Nat) {v : Int → Int} (hv : ∀ (i : Nat) (b : Int), B[i]? = some b → ws[i]? = some (v b)) : bsum ws j = vs v (lotOf B j) B := by
  unfold bsum vs
  refine congrArg List.sum (List.ext_getElem (by simp [hl]) fun i h1 h2 => ?_)
  have hi : i < B.length := by simpa using h2
  have hw : i < ws.length := by omega
  simp only [List.getElem_map, List.getElem_zipIdx]
  have e : B[i]? = some B[i] := List.getElem?_eq_getElem hi
  have e2 := hv i _ e
  rw [List.getElem?_eq_getElem hw] at e2
  rw [lot_at nd j e, Nat.zero_add, Option.some.inj e2]

/-! ### rows in order -/
structure Rows (L : List Lv) (rs : List (Int × Int)) : Prop where
  perm : rs.Perm (wls L)
  up : rs.Pairwise fun x y => x.1 < y.1
theorem pair_uniq {a b : List (Int × Int)} (h : a.Perm b) (ha : a.Pairwise fun x y => x.1 < y.1) (hb : b.Pairwise fun x y => x.1 < y.1) : a = b :=
  List.Perm.eq_of_pairwise (le := fun x y => x.1 < y.1) (fun x y _ _ h1 h2 => absurd h1 (by omega)) ha hb h
theorem Rows.uniq {L : List Lv} {rs rs' : List (Int × Int)} (h : Rows L rs) (h' : Rows L rs') : rs = rs' := pair_uniq (h.perm.trans h'.perm.symm) h.up h'.up
theorem wsum_perm {S : Int → Bool} {a b : List (Int × Int)} (h : a.Perm b) : wsum S a = wsum S b := sum_perm (h.map fun r => if S r.1 = true then r.2 else 0)
theorem tot_perm {a b : List (Int × Int)} (h : a.Perm b) : tot a = tot b := sum_perm (h.map (·.2))
theorem Rows.nodup {L : List Lv} {rs : List (Int × Int)} (h : Rows L rs) : (rs.map (·.1)).Nodup := by
  refine List.Pairwise.imp (R := fun x y : Int => x < y) (fun h e => by omega) ?_
  exact List.pairwise_map.mpr h.up
theorem Rows.keys {L : List Lv} {rs : List (Int × Int)} (h : Rows L rs) : (rs.map (·.1)).Perm (L.flatMap (·.2)) := by
  rw [← wls_fst]
  exact h.perm.map _
/-- the lots by the scale are the lots by the nest -/
theorem lots_told {t : Tr} {L : List Lv} (h : Lvs t L) (o : Ok L) {p : Pw} {R : List Pw} (e : pw L = p :: R) {rs : List (Int × Int)} (hr : Rows L rs) (j : Nat) :
    goes (lotOf (rs.map (·.1)) j) t = decide (p.a ≤ bsum (rs.map (·.2)) j) := by
  rw [scale_goes h o e, bsum_rows hr.nodup, wsum_perm hr.perm]
/-- what the last question of the law asks -/
theorem least_told {t : Tr} {L : List Lv} (h : Lvs t L) (o : Ok L) {p : Pw} {R : List Pw} (e : pw L = p :: R) {rs : List (Int × Int)} (hr : Rows L rs) {ws : List Int} (hl : ws.length = rs.length)
    (sep : ∀ i j, i < 2 ^ rs.length → j < 2 ^ rs.length → goes (lotOf (rs.map (·.1)) i) t = true → goes (lotOf (rs.map (·.1)) j) t = false → bsum ws j < bsum ws i) :
    (∃ j, j < 2 ^ rs.length ∧ goes (lotOf (rs.map (·.1)) j) t = false ∧ p.a ≤ bsum ws j + 1) ∧ ∀ (i : Nat) (x y : Int), ws[i]? = some x → (rs.map (·.2))[i]? = some y → y ≤ x := by
  have nd := hr.nodup
  have ks := hr.keys
  have lB : (rs.map (·.1)).length = rs.length := List.length_map _
  let v : Int → Int := fun b => ws.getD ((rs.map (·.1)).idxOf b) 0
  have hv : ∀ (i : Nat) (b : Int), (rs.map (·.1))[i]? = some b → ws[i]? = some (v b) := fun i b hb => by
    have hi : i < ws.length := by
      have := (List.getElem?_eq_some_iff.mp hb).1
      omega
    show ws[i]? = some (ws.getD ((rs.map (·.1)).idxOf b) 0)
    rw [idxOf_at nd hb, List.getD_eq_getElem?_getD, List.getElem?_eq_getElem hi]
    rfl
  have bz : ∀ j, bsum ws j = vs v (lotOf (rs.map (·.1)) j) (L.flatMap (·.2)) := fun j => by
    rw [bsum_zip nd (by omega) j hv, vs_perm ks]
  -- any lot by its number
  have num : ∀ S : Int → Bool, ∃ j, j < 2 ^ rs.length ∧ ∀ b ∈ L.flatMap (·.2), lotOf (rs.map (·.1)) j b = S b := fun S => by
    obtain ⟨j, hj, hb⟩ := some_lot (fun i => S ((rs.map (·.1)).getD i 0)) rs.length
    refine ⟨j, hj, fun b m => ?_⟩
    obtain ⟨i, hi⟩ := List.getElem?_of_mem (ks.mem_iff.mpr m)
    have hlt : i < rs.length := by
      have := (List.getElem?_eq_some_iff.mp hi).1
      omega
    rw [lot_at nd j hi, hb i hlt, List.getD_eq_getElem?_getD, hi]
    rfl
  have gn : ∀ j, goesL (lotOf (rs.map (·.1)) j) L = goes (lotOf (rs.map (·.1)) j) t := fun j => (lvs_goes _ h).symm
  have S : Sep v L := fun S S' g g' => by
    obtain ⟨i, hi, ei⟩ := num S
    obtain ⟨j, hj, ej⟩ := num S'
    have := sep i j hi hj (by rw [← gn, goesL_congr ei]; exact g) (by rw [← gn, goesL_congr ej]; exact g')
    rw [bz, bz, vs_congr ei, vs_congr ej] at this
    exact this
  have T := least o (ks.nodup_iff.mp nd) S e
  refine ⟨?_, fun i x y hx hy => ?_⟩
  · obtain ⟨S, g, q⟩ := T.fail
    obtain ⟨j, hj, ej⟩ := num S
    refine ⟨j, hj, by rw [← gn, goesL_congr ej]; exact g, ?_⟩
    rw [bz, vs_congr ej]
    exact q
  · have hi : i < rs.length := by
      have := (List.getElem?_eq_some_iff.mp hy).1
      rw [List.length_map] at this
      exact this
    have e1 : (rs.map (·.1))[i]? = some (rs[i]).1 := by
      rw [List.getElem?_map, List.getElem?_eq_getElem hi]
      rfl
    have e2 : (rs.map (·.2))[i]? = some (rs[i]).2 := by
      rw [List.getElem?_map, List.getElem?_eq_getElem hi]
      rfl
    have q := T.each rs[i] (hr.perm.mem_iff.mp (List.getElem_mem hi))
    have q2 := hv i _ e1
    rw [hx] at q2
    rw [hy] at e2
    rw [Option.some.inj q2, Option.some.inj e2]
    exact q
end Ks
set_option maxRecDepth 100000
set_option maxHeartbeats 4000000
namespace Ks
open PySem PySem.Spec PyProof.Rows L2
/-! ### the text by places; the defs as they stand -/
def tp (i : Nat) : Stmt := PySem.Challenge.pw_onescale_k30_whole_pairs_and_least_scale.main.body.getD i (.Pass ⟨0, 0, 0, 0⟩)
/-- a def of the module, found by its name -/
structure Df (K : PySem.W.Frag) (mg : Str → Option Value) (x : Str) (st : Stmt) (ps : List Str) : Prop where
  ex : ∃ (f : Addr) (fd : FuncData), Fun K x x st f fd ∧ mg x = some (.ref f) ∧ Binds K fd ps []
/-- a def that may be called by its name -/
structure Cal (P : Program) (w : World) (K : PySem.W.Frag) (mg : Str → Option Value) (base : Heap) (k : Nat) (x : Str) (sp : Sp) : Prop where
  ex : ∃ (f : Addr) (fd : FuncData) (ps : List Str), FnOk P w K mg base CX0 k f fd ps sp ∧ mg x = some (.ref f) ∧ PySem.W.keepIn K (.ref f) = true ∧ Binds K fd ps []
/-- names of the model's own that the module leaves alone -/
structure Bi (mg : Str → Option Value) : Prop where
  isinstance : mg "isinstance" = none
  int : mg "int" = none
  tuple : mg "tuple" = none
  len : mg "len" = none
  sorted : mg "sorted" = none
  enumerate : mg "enumerate" = none
  max : mg "max" = none
  min : mg "min" = none
  zip : mg "zip" = none
  list : mg "list" = none
  dict : mg "dict" = none
  range : mg "range" = none
  sum : mg "sum" = none
  repr : mg "repr" = none
  abs : mg "abs" = none
section
variable {P : Program} {w : World} {K : PySem.W.Frag} {mg : Str → Option Value} {base : Heap} {k j : Nat} {x : Str} {sp : Sp}
theorem Cal.mono (c : Cal P w K mg base k x sp) (h : k ≤ j) : Cal P w K mg base j x sp :=
  let ⟨f, fd, ps, F, a, b, d⟩ := c.ex
  ⟨f, fd, ps, F.mono h, a, b, d⟩
theorem Cal.imp {sp' : Sp} (c : Cal P w K mg base k x sp) (h : ∀ vs H Q E, sp' vs H Q E → sp vs H Q E) : Cal P w K mg base k x sp' :=
  let ⟨f, fd, ps, F, a, b, d⟩ := c.ex
  ⟨f, fd, ps, F.imp h, a, b, d⟩
/-- a def by its body -/
theorem Df.cal {st : Stmt} {N ps : List Str} (D : Df K mg x st ps) (S : FnScope N ps (defScope st)) (len : ∀ vs H Q E, sp vs H Q E → vs.length = ps.length)
    (body : ∀ (f : Addr) (cdv : Value) (A : Around) (outer : List Env) (s : Shared) (H : Hp) (vs : List V) (Q : VK) (E : XK), Room k (A.deeper (envOfC x (defScope st) s.heap.objs.size f cdv)) → sp vs H Q E →
      ∃ t, PSs (cxOf CX0 P w K mg base N x (defScope st) f cdv A outer s H E).nox (defBody st) t ∧ t { nx := fun _ H' => Q .non H', rt := Q } (start N vs) H) : Cal P w K mg base (k + 1) x sp :=
  let ⟨f, fd, F, m, b⟩ := D.ex
  ⟨f, fd, ps, F.ok S len fun cdv A outer s H vs Q E => body f cdv A outer s H vs Q E, m, F.kp, b⟩
/-- a promise that asks what cannot be -/
theorem Df.never {st : Stmt} {ps : List Str} (D : Df K mg x st ps) (no : ∀ vs H Q E, ¬ sp vs H Q E) : Cal P w K mg base k x sp :=
  let ⟨f, fd, F, m, b⟩ := D.ex
  ⟨f, fd, ps, ⟨fun vs H Q E h => absurd h (no vs H Q E), fun _ _ _ H _ _ vs Q E _ _ _ _ h => absurd h (no vs H Q E)⟩, m, F.kp, b⟩
end
section
variable {X : Cx} {k j : Nat} {x : Str} {sp : Sp} {p pos : Pos} {e : Expr} {es : List Expr} {t : TA}
/-- f(e, ..) -/
theorem pc (c : Cal X.prog X.w X.K X.mg X.base k x sp) (hr : Room j X.A) (hk : k ≤ j) (ha : PA X (e :: es) t) (hg : Gl X x := by rfl)
    (hdb : (x == ("__debug__" : Str)) = false := by decide) (he : starEach (e :: es) X.env = (false, eval e X.env) :: starEach es X.env := by rfl) (hpl : (backTo pos (starEach es X.env)).any (·.1) = false := by rfl) :
    PE X (.Call (.Name x p) (e :: es) [] pos) (tCall sp [] E0 t) := by
  obtain ⟨f, fd, ps, F, hm, kp, b⟩ := c.ex
  exact pe_call F (hr.mono hk) hg hm kp b .nil pass0 ha hdb he hpl
end
/-! ### heaps -/
theorem same_new {H : Hp} {p : Addr} (h : H p = none) (o : HO) : Same H (upd H p o) := fun b u q => by rw [upd_ne (ne_of_none q h)]; exact q
/-- an object that H does not know may change -/
theorem Same.upd' {H H' : Hp} {p : Addr} {o : HO} (e : Same H H') (h : H p = none) : Same H (upd H' p o) := fun a u ha => by
  rw [upd_ne (ne_of_none ha h)]
  exact e a u ha
/-- tuples stay -/
def TupK (H H' : Hp) : Prop := ∀ b xs, H b = some (.tup xs) → H' b = some (.tup xs)
theorem Same.tupK {H H' : Hp} (h : Same H H') : TupK H H' := fun b _ q => h b _ q
theorem TupK.trans {H H1 H2 : Hp} (a : TupK H H1) (b : TupK H1 H2) : TupK H H2 := fun c xs q => b c xs (a c xs q)
theorem TupK.refl (H : Hp) : TupK H H := fun _ _ q => q
theorem tupK_upd {H : Hp} {p : Addr} {o : HO} (h : ∀ xs, H p ≠ some (.tup xs)) : TupK H (upd H p o) := fun b xs q => by
  rw [upd_ne (fun e : b = p => h xs (by rw [← e]; exact q))]
  exact q
theorem tupK_new {H : Hp} {p : Addr} {o : HO} (h : H p = none) : TupK H (upd H p o) := tupK_upd fun xs q => by rw [h] at q; cases q
theorem tupK_lst {H : Hp} {p : Addr} {o : HO} {ys : List V} (h : H p = some (.lst ys)) : TupK H (upd H p o) := tupK_upd fun xs q => by rw [h] at q; cases q
theorem TupK.sqT {K : PySem.W.Frag} {H H' : Hp} {a : Addr} {xs : List V} (h : TupK H H') (q : H a = some (.tup xs)) : SqT K H' a xs := .inl (.inl (h a xs q))
theorem sqT {K : PySem.W.Frag} {H : Hp} {a : Addr} {xs : List V} (q : H a = some (.tup xs)) : SqT K H a xs := .inl (.inl q)
theorem sqL {K : PySem.W.Frag} {H : Hp} {a : Addr} {xs : List V} (q : H a = some (.lst xs)) : SqL K H a xs := .inl (.inl q)
/-! ### a tree as it lies in the heap -/
mutual
def TrAt (H : Hp) : Tr → V → Prop
  | .leaf b, v => v = .int b
  | .node k ps, v => ∃ a q vs, v = .ref a ∧ H a = some (.tup [.int k, .ref q]) ∧ H q = some (.tup vs) ∧ TrsAt H ps vs
def TrsAt (H : Hp) : List Tr → List V → Prop
  | [], vs => vs = []
  | p :: r, vs => ∃ v u, vs = v :: u ∧ TrAt H p v ∧ TrsAt H r u
end
theorem trAt_leaf {H : Hp} {b : Int} {v : V} : TrAt H (.leaf b) v ↔ v = .int b := by rw [TrAt]
theorem trAt_node {H : Hp} {k : Int} {ps : List Tr} {v : V} : TrAt H (.node k ps) v ↔ ∃ a q vs, v = .ref a ∧ H a = some (.tup [.int k, .ref q]) ∧ H q = some (.tup vs) ∧ TrsAt H ps vs := by rw [TrAt]
theorem trsAt_nil {H : Hp} {vs : List V} : TrsAt H [] vs ↔ vs = [] := by rw [TrsAt]
theorem trsAt_cons {H : Hp} {p : Tr} {r : List Tr} {vs : List V} : TrsAt H (p :: r) vs ↔ ∃ v u, vs = v :: u ∧ TrAt H p v ∧ TrsAt H r u := by rw [TrsAt]
theorem TrsAt.len {H : Hp} : ∀ {ps : List Tr} {vs : List V}, TrsAt H ps vs → vs.length = ps.length
  | [], vs, h => by rw [trsAt_nil.mp h]; rfl
  | p :: r, vs, h => by
    obtain ⟨v, u, rfl, _, h⟩ := trsAt_cons.mp h
    rw [List.length_cons, List.length_cons, h.len]
theorem TrsAt.get {H : Hp} : ∀ {ps : List Tr} {vs : List V}, TrsAt H ps vs → ∀ {i : Nat} {p : Tr}, ps[i]? = some p → ∃ v, vs[i]? = some v ∧ TrAt H p v
  | [], vs, h, i, p, e => by simp at e
  | q :: r, vs, h, i, p, e => by
    obtain ⟨v, u, rfl, h1, h2⟩ := trsAt_cons.mp h
    cases i with
    | zero =>
      have e : q = p := by simpa using e
      subst e
      exact ⟨v, rfl, h1⟩
    | succ i => exact h2.get (i := i) (by simpa using e)
theorem TrsAt.app {H : Hp} : ∀ {ps qs : List Tr} {vs us : List V}, TrsAt H ps vs → TrsAt H qs us → TrsAt H (ps ++ qs) (vs ++ us)
  | [], qs, vs, us, h, h' => by rw [trsAt_nil.mp h]; exact h'
  | p :: r, qs, vs, us, h, h' => by
    obtain ⟨v, u, rfl, h1, h2⟩ := trsAt_cons.mp h
    exact trsAt_cons.mpr ⟨v, u ++ us, rfl, h1, h2.app h'⟩
theorem TrsAt.one {H : Hp} {p : Tr} {v : V} (h : TrAt H p v) : TrsAt H [p] [v] := trsAt_cons.mpr ⟨v, [], rfl, h, trsAt_nil.mpr rfl⟩
theorem TrAt.mono {H H' : Hp} (e : TupK H H') : ∀ {t : Tr} {v : V}, TrAt H t v → TrAt H' t v := fun {t} => by
  refine Tr.ind (P := fun t => ∀ {v : V}, TrAt H t v → TrAt H' t v) (fun b v h => ?_) (fun k ps ih v h => ?_) t
  · exact trAt_leaf.mpr (trAt_leaf.mp h)
  · obtain ⟨a, q, vs, rfl, h1, h2, h3⟩ := trAt_node.mp h
    refine trAt_node.mpr ⟨a, q, vs, rfl, e _ _ h1, e _ _ h2, ?_⟩
    clear h h2
    induction ps generalizing vs with
    | nil => exact trsAt_nil.mpr (trsAt_nil.mp h3)
    | cons p r ihr =>
      obtain ⟨v, u, rfl, h4, h5⟩ := trsAt_cons.mp h3
      exact trsAt_cons.mpr ⟨v, u, rfl, ih p (.head _) h4, ihr (fun x hx => ih x (.tail _ hx)) u h5⟩
theorem TrsAt.mono {H H' : Hp} (e : TupK H H') : ∀ {ps : List Tr} {vs : List V}, TrsAt H ps vs → TrsAt H' ps vs
  | [], vs, h => trsAt_nil.mpr (trsAt_nil.mp h)
  | p :: r, vs, h => by
    obtain ⟨v, u, rfl, h1, h2⟩ := trsAt_cons.mp h
    exact trsAt_cons.mpr ⟨v, u, rfl, h1.mono e, h2.mono e⟩
theorem TrAt.tyX {K : PySem.W.Frag} {H : Hp} {t : Tr} {v : V} (h : TrAt H t v) : TyX K H v (.type (if t.isL = true then "int" else "tuple")) := by
  cases t with
  | leaf b => rw [trAt_leaf.mp h]; exact .base (.int b)
  | node k ps =>
    obtain ⟨a, q, vs, rfl, h1, h2, h3⟩ := trAt_node.mp h
    exact .base (.tup h1)
/-! ### is_trip -/
theorem sc_is_trip : FnScope ["tree"] ["tree"] (defScope (tp 7)) := ⟨rfl, rfl, rfl, by decide +kernel, rfl, by decide +kernel, by decide +kernel⟩
def sp_is_trip : Sp := fun vs H Q _ => ∃ (v : V) (t : Tr), vs = [v] ∧ TrAt H t v ∧ Q (.bl !t.isL) H
section
variable {P : Program} {w : World} {K : PySem.W.Frag} {mg : Str → Option Value} {base : Heap}
theorem kit_int (t : Tr) : PySem.W.kitOne K (.type (if t.isL = true then "int" else "tuple")) (.type "int") = some t.isL := by
  cases t with
  | leaf b => exact kit_ty (a := "int") (b := "int") (r := true) (by decide +kernel)
  | node k ps => exact kit_ty (a := "tuple") (b := "int") (r := false) (by decide +kernel)
theorem kit_tuple (t : Tr) : PySem.W.kitOne K (.type (if t.isL = true then "int" else "tuple")) (.type "tuple") = some !t.isL := by
  cases t with
  | leaf b => exact kit_ty (a := "int") (b := "tuple") (r := false) (by decide +kernel)
  | node k ps => exact kit_ty (a := "tuple") (b := "tuple") (r := true) (by decide +kernel)
theorem ok_is_trip (B : Bi mg) (D : Df K mg "is_trip" (tp 7) ["tree"]) : Cal P w K mg base 1 "is_trip" sp_is_trip := by
  refine D.cal sc_is_trip (fun vs H Q E h => ?_) (fun f cdv A outer s H vs Q E hr h => ?_)
  · obtain ⟨v, t, rfl, _⟩ := h
    rfl
  obtain ⟨v, t, rfl, ht, q⟩ := h
  refine ⟨_, pss_one (ps_ret (pe_callB call_isi (by rfl) B.isinstance (by decide +kernel) (pa_cons (pv 0) (pa_cons (pe_bltn (v := .ty "tuple") (by rfl) B.tuple (by decide +kernel) rfl) pa_nil)))), ?_⟩
  exact ⟨v, rfl, v, .ty "tuple", _, _, _, rfl, .ty _, ht.tyX, kit_tuple t, q⟩
end
end Ks
set_option maxRecDepth 100000
set_option maxHeartbeats 4000000
namespace Ks
open PySem PySem.Spec PyProof.Rows L2
/-! ### least_button, is_like_trip -/
theorem sc_least_button : FnScope ["tree", "found"] ["tree"] (defScope (tp 12)) := ⟨rfl, rfl, rfl, by decide +kernel, rfl, by decide +kernel, by decide +kernel⟩
theorem sc_is_like : FnScope ["part", "bound", "many"] ["part", "bound", "many"] (defScope (tp 13)) := ⟨rfl, rfl, rfl, by decide +kernel, rfl, by decide +kernel, by decide +kernel⟩
def sp_least_button : Sp := fun vs H Q _ => ∃ (v : V) (t : Tr), vs = [v] ∧ TrAt H t v ∧ Red t ∧ Q (.int (fst t)) H
def sp_is_like : Sp := fun vs H Q _ => ∃ (v : V) (t : Tr) (k : Int) (n : Nat), vs = [v, .int k, .int (n : Int)] ∧ TrAt H t v ∧ Q (.bl (like k n t)) H
section
variable {P : Program} {w : World} {K : PySem.W.Frag} {mg : Str → Option Value} {base : Heap}
theorem ok_least_button (D : Df K mg "least_button" (tp 12) ["tree"]) (cI : Cal P w K mg base 1 "is_trip" sp_is_trip) : Cal P w K mg base 2 "least_button" sp_least_button := by
  refine D.cal sc_least_button (fun vs H Q E h => ?_) (fun f cdv A outer s H vs Q E hr h => ?_)
  · obtain ⟨v, t, rfl, _⟩ := h
    rfl
  obtain ⟨v, t, rfl, ht, hR, q⟩ := h
  refine ⟨_, pss_cons (ps_set (i := 1) sc_least_button.nd rfl (.inl rfl) (pv 0))
    (pss_cons (ps_while PassesOwn.never (pt_val (pc cI hr (by decide) (pa_cons (pv 1) pa_nil)))
        (pss_one (ps_set (i := 1) sc_least_button.nd rfl (.inl rfl) (pe_ix ix_tup (pe_ix ix_tup (pv 1) pe_int (fun _ _ => rfl)) pe_int (fun _ _ => rfl)))))
      (pss_one (ps_ret (pv 1)))), ?_⟩
  refine ⟨v, rfl, fun m σ H' => H' = H ∧ ∃ u p, σ = [some v, some u] ∧ TrAt H p u ∧ Red p ∧ fst p = fst t ∧ m = dep p, ⟨_, rfl, v, t, rfl, ht, hR, rfl, rfl⟩, ?_⟩
  rintro m σ H' ⟨rfl, u, p, rfl, hp, hRp, ef, rfl⟩
  refine ⟨u, rfl, u, p, rfl, hp, _, rfl, ?_⟩
  cases p with
  | leaf b =>
    refine iteF ⟨u, rfl, ?_⟩
    rw [trAt_leaf.mp hp, show b = fst t from ef]
    exact q
  | node k ps =>
    refine iteT ⟨fun σ' H'' => H'' = H' ∧ ∃ u p, σ' = [some v, some u] ∧ TrAt H' p u ∧ Red p ∧ fst p = fst t ∧ dep p < dep (.node k ps), fun σ' H'' z => ?_, ?_⟩
    · obtain ⟨e, u, p, e1, e2, e3, e4, e5⟩ := z
      exact ⟨_, e5, e, u, p, e1, e2, e3, e4, rfl⟩
    · obtain ⟨a, c, us, rfl, h1, h2, h3⟩ := trAt_node.mp hp
      cases ps with
      | nil => exact absurd hRp.len.1 (by simp)
      | cons p r =>
        obtain ⟨x, xs, rfl, h4, h5⟩ := trsAt_cons.mp h3
        refine ⟨_, rfl, a, _, 1, .ref c, rfl, rfl, sqT h1, atI_nat (j := 1) rfl, c, _, 0, x, rfl, rfl, sqT h2, atI_nat (j := 0) rfl, ?_⟩
        refine ⟨rfl, x, p, rfl, h4, hRp.parts p (.head _), ef, ?_⟩
        have := dep_mem (p := p) (ps := p :: r) (.head _)
        rw [dep_node]
        omega
theorem ok_is_like (B : Bi mg) (D : Df K mg "is_like_trip" (tp 13) ["part", "bound", "many"]) (cI : Cal P w K mg base 1 "is_trip" sp_is_trip) : Cal P w K mg base 2 "is_like_trip" sp_is_like := by
  refine D.cal sc_is_like (fun vs H Q E h => ?_) (fun f cdv A outer s H vs Q E hr h => ?_)
  · obtain ⟨v, t, k, n, rfl, _⟩ := h
    rfl
  obtain ⟨v, t, k, n, rfl, ht, q⟩ := h
  refine ⟨_, pss_cons (ps_if (pt_not (pt_val (pc cI hr (by decide) (pa_cons (pv 0) pa_nil)))) (pss_one (ps_ret pe_bl)) pss_nil)
    (pss_one (ps_ret (pe_or (pe_and (pe_cmpR op_eq (pv 1) pe_int (nomark _)) (pe_one (pe_cmpR op_eq (pe_ix ix_tup (pv 0) pe_int (fun _ _ => rfl)) pe_int (nomark _))))
      (pe_one (pe_and (pe_cmpR op_eq (pv 1) (pv 2) (nomark _)) (pe_one (pe_cmpR op_eq (pe_ix ix_tup (pv 0) pe_int (fun _ _ => rfl)) (pe_callB call_len_seq (by rfl) B.len PySem.boot_len (pa_cons (pe_ix ix_tup (pv 0) pe_int (fun _ _ => rfl)) pa_nil)) (nomark _)))))))), ?_⟩
  refine ⟨v, rfl, v, t, rfl, ht, _, rfl, ?_⟩
  cases t with
  | leaf b => exact iteT q
  | node k' ps =>
    obtain ⟨a, c, us, rfl, h1, h2, h3⟩ := trAt_node.mp ht
    have hl := h3.len
    refine iteF ?_
    have ev : ∀ (x y : Int), decide (V.int x = V.int y) = decide (x = y) := fun x y => by
      by_cases e : x = y
      · simp [e]
      · simp [e]
    have second : ∀ Q' : VK, Q' (.bl (decide (k = (n : Int)) && decide (k' = (ps.length : Int)))) H → (tAndV (tOp rEq (tVar 1) (tVar 2)) (tOp rEq (tOp (rIxT K) (tVar 0) (tC (.int 0))) (tCB (fun xs H Q => ∃ p ys, xs = [V.ref p] ∧ (SqL K H p ys ∨ SqT K H p ys) ∧ Q (.int (ys.length : Int)) H) (tCons (tOp (rIxT K) (tVar 0) (tC (.int 1))) tNil)))) (start ["part", "bound", "many"] [.ref a, .int k, .int (n : Int)]) H Q' := fun Q' q' => by
      refine ⟨_, rfl, _, rfl, rfl, _, rfl, ?_⟩
      rw [ev]
      by_cases e : k = (n : Int)
      · rw [decide_eq_true e] at q' ⊢
        refine iteT ⟨.ref a, rfl, a, _, 0, .int k', rfl, rfl, sqT h1, atI_nat (j := 0) rfl, .ref a, rfl, a, _, 1, .ref c, rfl, rfl, sqT h1, atI_nat (j := 1) rfl, c, us, rfl, .inr (sqT h2), rfl, ?_⟩
        rw [ev, hl]
        exact q'
      · rw [decide_eq_false e] at q' ⊢
        exact iteF q'
    refine ⟨_, rfl, rfl, _, rfl, ?_⟩
    rw [ev]
    by_cases e1 : k = 1
    · rw [decide_eq_true e1]
      refine iteT ⟨.ref a, rfl, a, _, 0, .int k', rfl, rfl, sqT h1, atI_nat (j := 0) rfl, rfl, _, rfl, ?_⟩
      rw [ev]
      by_cases e2 : k' = 1
      · rw [decide_eq_true e2]
        refine iteT ?_
        have : like k n (.node k' ps) = true := by simp [like, e1, e2]
        rw [this] at q
        exact q
      · rw [decide_eq_false e2]
        refine iteF (second _ ?_)
        have : like k n (.node k' ps) = (decide (k = (n : Int)) && decide (k' = (ps.length : Int))) := by simp [like, e2]
        rw [this] at q
        exact q
    · rw [decide_eq_false e1]
      refine iteF ⟨_, rfl, iteF (second _ ?_)⟩
      have : like k n (.node k' ps) = (decide (k = (n : Int)) && decide (k' = (ps.length : Int))) := by simp [like, e1]
      rw [this] at q
      exact q
end
end Ks
set_option maxRecDepth 100000
set_option maxHeartbeats 4000000
namespace Ks
open PySem PySem.Spec PyProof.Rows L2
/-! ### sorted(xs, key=f), f a def: xs the first parts of bs, the keys the second ones; G holds of the heap while f is called -/
def rSrtF (K : PySem.W.Frag) (f : Addr) (sp : Sp) : List V → List V → Hp → VK → Prop := fun vs zs H Q => ∃ (a : Addr) (bs : List (V × Int)) (G : Hp → Prop), vs = [.ref a] ∧ zs = [.ref f] ∧ SqL K H a (bs.map (·.1)) ∧ G H ∧
  (∀ H', G H' → ∀ b ∈ bs, sp [b.1] H' (fun v H2 => v = .int b.2 ∧ G H2) E0) ∧
  ∀ H' p, G H' → H' p = none → Q (.ref p) (upd H' p (.lst ((bs.mergeSort fun x y => decide (x.2 ≤ y.2)).map (·.1))))
section
variable {X : Cx} {pins : List (Addr × Obj)} {σ : L2.St} {H : Hp} {s : Shared}
/-- an address behind all that stands -/
theorem behind (I : Inv X pins σ H s) {b : Addr} (hb : s.heap.objs.size ≤ b) : b ≠ X.env.locals ∧ b ∉ X.fs ∧ (∀ x c, X.env.cells.lookup x = some c → c ≠ b) ∧ (∀ p ∈ X.pn ++ pins, p.1 ≠ b) ∧ X.s_0.heap.objs.size ≤ b ∧ b ∉ frs X.stack := by
  have h1 : b ≠ X.env.locals := fun e => absurd (Nat.lt_of_lt_of_le I.lt hb) (by rw [e]; exact Nat.lt_irrefl _)
  have h2 : b ∉ X.fs := I.nofs hb
  refine ⟨h1, h2, fun x c e z => ?_, fun p hp z => ?_, Nat.le_trans I.sz hb, fun z => ?_⟩
  · obtain ⟨v, o, ho, _⟩ := I.cell x c e
    have h3 := Heap.lt_size ho
    rw [z] at h3
    exact absurd (Nat.lt_of_lt_of_le h3 hb) (Nat.lt_irrefl _)
  · have h3 := Heap.lt_size (I.pin p hp).1
    rw [z] at h3
    exact absurd (Nat.lt_of_lt_of_le h3 hb) (Nat.lt_irrefl _)
  · rcases List.mem_cons.mp (I.stkSub b z) with e | e
    · exact h1 e
    · exact h2 e
theorem vals_map {β : Type} {g : β → V} : ∀ {bs : List β} {us : List Value}, Vals (bs.map g) us → PySem.W.EachIs (fun u b => RelV (g b) u) us bs
  | [], us, h => by
    cases h
    exact .nil
  | b :: r, us, h => by
    cases h with
    | cons h1 h2 => exact .cons h1 (vals_map h2)
theorem map_vals {β : Type} {g : β → V} : ∀ {bs : List β} {us : List Value}, PySem.W.EachIs (fun u b => RelV (g b) u) us bs → Vals (bs.map g) us
  | [], us, h => by
    cases h
    exact .nil
  | b :: r, us, h => by
    cases h with
    | cons h1 h2 => exact .cons h1 (map_vals h2)
end
section
variable {X : Cx} {pins : List (Addr × Obj)} {σ : L2.St} {H : Hp} {s : Shared} {k : Nat} {f : Addr} {fd : FuncData} {ps : List Str} {sp : Sp}
theorem seq_cell {xs : Array Value} {n : Nat} : ∀ v : Option Value, (seqObj "list" xs n).data ≠ .cell v := fun v h => by cases h
/-- the key's call, a and b two objects of the sort's own -/
theorem srtF_turn (F : FnOk X.prog X.w X.K X.mg X.base CX0 k f fd ps sp) (hr : Room (k + 2) X.A) (hb : Binds X.K fd ps []) {Hc : Hp} {s1 : Shared} (I : Inv X pins σ H s) (J : Inv X pins σ Hc s1) {a b : Addr} {oa ob : Obj}
    (ha : s.heap.objs.size ≤ a) (hbb : s.heap.objs.size ≤ b) (na : Hc a = none) (nb : Hc b = none) (ga : s1.heap.get? a = some oa) (gb : s1.heap.get? b = some ob) {x : V} {u : Value} (r : RelV x u) {Q : VK} (hsp : sp [x] Hc Q E0)
    {T : Value → Shared → Prop} {E' : Value → Shared → Prop} (hT : ∀ v w H2 s2, Inv X pins σ H2 s2 → H2 a = none → H2 b = none → s2.heap.get? a = some oa → s2.heap.get? b = some ob → RelV v w → Q v H2 → T w s2) :
    wpAny (model X.prog X.w) X.A.in1.in1 (call (.ref f) [u]) T E' s1 := by
  have rv : Vals [x] [u] := .cons r .nil
  have hl : ([u] ++ ([] : List Value)).length = ps.length := by
    have := F.len _ _ _ _ hsp
    simpa using this
  have bt := hb s1 [u] J.kIn hl
  rw [List.append_nil] at bt
  obtain ⟨_, _, _, _, _, sa⟩ := behind I ha
  obtain ⟨_, _, _, _, _, sb⟩ := behind I hbb
  refine wpAny_call (codeAny_mono (F.run X.A.in1.in1 X.stack s1 Hc ⟨[u], []⟩ [u] [x] Q E0 hr.in1.in1 J.env0.in1.in1 bt rv hsp) fun r s2 hq => ?_)
  cases r with
  | error e => exact hq.elim
  | ok fl =>
    cases fl with
    | next => exact hq.elim
    | brk => exact hq.elim
    | cont => exact hq.elim
    | ret w =>
      obtain ⟨v0, H0, z1, z2, un, z4, z5, z6⟩ := id hq
      obtain ⟨v, H2, J2, rv2, q2, e2⟩ : EP X pins σ (fun v H2 => Q v H2 ∧ Un (frs X.stack) [] Hc H2 s1.heap s2.heap) w s2 := J.after ⟨v0, H0, z1, z2, un, z4, z5, z6, un⟩
      exact hT v w H2 s2 J2 (e2.free a _ ga na (fun z => nomatch z)) (e2.free b _ gb nb (fun z => nomatch z)) (e2.keep a _ ga na sa (fun z => nomatch z)) (e2.keep b _ gb nb sb (fun z => nomatch z)) rv2 q2
theorem each_at {α β : Type} {R : α → β → Prop} {as : List α} {bs : List β} (h : PySem.W.EachIs R as bs) {j : Nat} {x : α} (e : as[j]? = some x) : ∃ y, bs[j]? = some y ∧ R x y := by
  induction h generalizing j with
  | nil => simp at e
  | cons h1 _ ih =>
    cases j with
    | zero =>
      rw [List.getElem?_cons_zero] at e
      cases e
      exact ⟨_, rfl, h1⟩
    | succ j => exact ih (by simpa using e)
theorem each_len {α β : Type} {R : α → β → Prop} {as : List α} {bs : List β} (h : PySem.W.EachIs R as bs) : as.length = bs.length := by
  induction h with
  | nil => rfl
  | cons _ _ ih => rw [List.length_cons, List.length_cons, ih]
theorem each_app {α β : Type} {R : α → β → Prop} {as as' : List α} {bs bs' : List β} (h : PySem.W.EachIs R as bs) (h' : PySem.W.EachIs R as' bs') : PySem.W.EachIs R (as ++ as') (bs ++ bs') := by
  induction h with
  | nil => exact h'
  | cons a _ ih => exact .cons a ih
theorem each_imp {α β : Type} {R S : α → β → Prop} {as : List α} {bs : List β} (h : PySem.W.EachIs R as bs) (f : ∀ a b, R a b → S a b) : PySem.W.EachIs S as bs := by
  induction h with
  | nil => exact .nil
  | cons a _ ih => exact .cons (f _ _ a) ih
/-- the sort itself, over the state that the copying leaves -/
theorem srtF_rest (F : FnOk X.prog X.w X.K X.mg X.base CX0 k f fd ps sp) (hr : Room (k + 2) X.A) (hb : Binds X.K fd ps []) (I : Inv X pins σ H s) {bs : List (V × Int)} {its : List Value} (ev : PySem.W.EachIs (fun u (b : V × Int) => RelV b.1 u) its bs) (hz : its.length ≤ sizeLine)
    {G : Hp → Prop} (hsp : ∀ H', G H' → ∀ b ∈ bs, sp [b.1] H' (fun v H2 => v = .int b.2 ∧ G H2) E0) {a c : Addr} {e1 : Nat} {s1 : Shared} (J : Inv X pins σ H s1) (hG : G H) (ha : s.heap.objs.size ≤ a) (hc : s.heap.objs.size ≤ c) (hca : c ≠ a)
    (ga : s1.heap.get? a = some (seqObj "list" #[] e1)) (gc : s1.heap.get? c = some (seqObj "list" #[] 0)) {T : PySem.Fin → Shared → Prop} {E' : Value → Shared → Prop}
    (hT : ∀ H' s2, G H' → H' a = none → Inv X pins σ (upd H' a (.lst ((bs.mergeSort fun x y => decide (x.2 ≤ y.2)).map (·.1)))) s2 → T (.done (.ret .none)) s2) :
    wpAny (model X.prog X.w) X.A.in1.in1 (ksk_rest a (.ref f) false its.toArray e1 (.ref c)) T E' s1 := by
  have hlen := each_len ev
  unfold ksk_rest
  refine wpAny_bind (wpAny_rule ?_)
  first
    | rw [List.forIn_toArray]
    | (rw [← Array.forIn_toList]; simp only [List.toList_toArray])
  refine wpAny_bind (ksk_fold (fun i s' => ∃ (Hc : Hp) (kA : Array Value) (e : Nat), Inv X pins σ Hc s' ∧ G Hc ∧ Hc a = none ∧ Hc c = none ∧ s'.heap.get? a = some (seqObj "list" #[] e1) ∧ s'.heap.get? c = some (seqObj "list" kA e) ∧
    PySem.W.EachIs (fun u (b : V × Int) => ∃ t, u = Value.int b.2 t) kA.toList (bs.take i)) its 0 s1
    ⟨H, #[], 0, J, hG, I.hok.fresh ha, I.hok.fresh hc, ga, gc, .nil⟩ ?turn ?fin)
  case turn =>
    rintro j u s' hu ⟨Hc, kA, e, J', hG', na, nc, ga', gc', ek⟩
    rw [Nat.zero_add] at ek ⊢
    obtain ⟨b, hbj, hR⟩ := each_at ev hu
    have hj : j < its.length := (List.getElem?_eq_some_iff.mp hu).1
    have hkz : kA.size ≤ sizeLine := by
      have := each_len ek
      rw [Array.length_toList, List.length_take] at this
      omega
    refine wpAny_bind (wpAny_attempt (srtF_turn F hr hb I J' ha hc na nc ga' gc' hR (hsp Hc hG' b (List.mem_of_getElem? hbj)) fun v w H2 s2 J2 na2 nc2 ga2 gc2 rv q => ?_))
    obtain ⟨rfl, hG2⟩ := q
    obtain ⟨t, rfl⟩ := rv
    dsimp only
    have sb := Heap.SameBut.update s2.heap c (Obj.mapSeq (·.push (Value.int b.2 t)))
    obtain ⟨c2, hc2⟩ : ∃ c2, (s2.heap.update c (Obj.mapSeq (·.push (Value.int b.2 t)))).get? c = some (seqObj "list" (kA.push (Value.int b.2 t)) c2) := ⟨_, get?_update_seq gc2 (·.push (Value.int b.2 t))⟩
    refine wpAny_bind (listUpdate_at gc2 rfl ?_ hkz (by rw [Array.size_push]; omega))
    obtain ⟨b1, b2, b3, b4, b5, b6⟩ := behind I hc
    refine wpAny_pure ⟨rfl, H2, kA.push (Value.int b.2 t), c2, J2.turned (t' := s2.toks) (it := c) (fun x o hx e => (sb.2 x hx).trans e) nc2 b1 (.inr b5) b3 b4, hG2, na2, nc2, (sb.2 a hca.symm).trans ga2, hc2, ?_⟩
    have e3 : bs.take (0 + j + 1) = bs.take j ++ [b] := by rw [Nat.zero_add, List.take_add_one, hbj]; rfl
    have e4 : (kA.push (Value.int b.2 t)).toList = kA.toList ++ [Value.int b.2 t] := by simp
    rw [Nat.zero_add] at e3
    rw [e3, e4]
    exact each_app ek (.cons ⟨t, rfl⟩ .nil)
  case fin =>
    rintro s' ⟨Hc, kA, e, J', hG', na, nc, ga', gc', ek⟩
    rw [Nat.zero_add, List.take_of_length_le (by omega)] at ek
    refine wpAny_bind (listItems_at gc' rfl ?_)
    have hsz : kA.size = its.length := by
      have := each_len ek
      rw [Array.length_toList] at this
      omega
    have al : PySem.W.AllAlike (bs.map fun b : V × Int => PyData.int b.2) := PySem.W.AllAlike.of fun _ _ => by simp [PySem.W.alike]
    have so : PySem.W.Sortable (bs.map fun b : V × Int => PyData.int b.2) := PySem.W.Sortable.others fun _ => ⟨fun z => (nomatch z), fun _ z => (nomatch z)⟩
    have er : PySem.W.EachIs (fun u d => ∃ as, Reads s'.heap u d as) kA.toList (bs.map fun b : V × Int => PyData.int b.2) := by
      clear al so hsz gc'
      generalize kA.toList = ks at ek
      clear ev hlen hsp hT
      induction ek with
      | nil => exact .nil
      | cons h _ ih =>
        obtain ⟨t, rfl⟩ := h
        exact .cons ⟨[], .int _ t⟩ ih
    have hun := hr.in1.in1.units0
    refine PySem.W.keyH_end (κ := PySem.W.dataKind s'.heap (bs.map fun b : V × Int => PyData.int b.2)) (h₁ := PySem.W.hideAll s'.heap [c]) (fun b o _ h => PySem.W.of_hideAll _ h) (PySem.W.hideAll_none _ (.head _)) gc' ga' hca
      (PySem.W.SortsAt.data er al so fun d hd => ?_) hsz hz fun h' tk n kp hD => ?_
    · obtain ⟨b, _, rfl⟩ := List.mem_map.mp hd
      have hun2 := hr.in1.in1.units
      have : (PyData.int b.2).depth = 0 := by simp [PyData.depth]
      omega
    · have ko : PySem.W.KeyedOut false (bs.map fun b : V × Int => PyData.int b.2) its (PySem.W.sortVals (PySem.W.dataKind s'.heap (bs.map fun b : V × Int => PyData.int b.2)) false kA.toList its) := ⟨s'.heap, kA.toList, al, rfl, er⟩
      have eo := PySem.W.keyedOut_each (fun b : V × Int => PyData.int b.2) ko ev
      rw [PySem.W.dataLe_int (β := V × Int) (·.2)] at eo
      have hol : ((bs.mergeSort fun x y => decide (x.2 ≤ y.2)).map (·.1)).length ≤ sizeLine := by
        rw [List.length_map, (List.mergeSort_perm _ _).length_eq]
        omega
      have old : ∀ b o, b ≠ a → b ≠ c → s'.heap.get? b = some o → h'.get? b = some o := fun b o n1 n2 g => kp b o n1 (PySem.W.hideAll_get _ g (by simpa using n2))
      obtain ⟨b1, b2, b3, b4, b5, b6⟩ := behind I hc
      obtain ⟨a1, a2, a3, a4, a5, a6⟩ := behind I ha
      have hcold : ∀ b, b ∉ [a, c] → b ≠ a ∧ b ≠ c := fun b hb => ⟨fun z => hb (by simp [z]), fun z => hb (by simp [z])⟩
      refine hT Hc { s' with heap := h', toks := tk } hG' na (J'.step (g' := s'.gens) (d' := s'.drawn) (ch := [a, c]) (fun b hb => ?_) (fun b o _ _ hc e _ => old b o (hcold b hc).1 (hcold b hc).2 e) (fun b o _ _ hc e _ => ⟨o.slots, old b o (hcold b hc).1 (hcold b hc).2 e⟩)
        (fun b o hc e n => by rw [upd_ne (hcold b hc).1]; exact n) (fun b o hc e => ⟨o, old b o (hcold b hc).1 (hcold b hc).2 e⟩) (fun b xs e => by rw [upd_ne (ne_of_none e na)]; exact e) (fun b o u e => by rw [upd_ne (ne_of_none e na)]; exact e)
        (fun b qs e => ⟨#[], by rw [upd_ne (ne_of_none e na), e]; simp⟩) (fun m hm => ?_) (fun b u e => ?_) J'.bare)
      · rcases List.mem_cons.mp hb with rfl | hb
        · exact ⟨.inr a5, a1, a3, a4⟩
        · rw [List.mem_singleton.mp hb]
          exact ⟨.inr b5, b1, b3, b4⟩
      · obtain ⟨o, es, ep, ho, r⟩ := hm
        exact ⟨o, es, ep, old _ o a1.symm b1.symm ho, r⟩
      · by_cases hba : b = a
        · subst hba
          rw [upd_same] at e
          cases e
          exact ⟨hol, _, n, map_vals eo, hD⟩
        · rw [upd_ne hba] at e
          have nbc : ∀ x y, Hc x = some y → x ≠ a ∧ x ≠ c := fun x y h => ⟨ne_of_none h na, ne_of_none h nc⟩
          refine (J'.hok b u e).stay (fun x o hx g => ?_) (fun x h => by rw [upd_ne (nbc x _ h).1]; exact h) fun x xs h => by rw [upd_ne (nbc x _ h).1]; exact h
          rcases hx with rfl | hx
          · exact old _ o (nbc _ u e).1 (nbc _ u e).2 g
          · exact old _ o (nbc _ _ hx).1 (nbc _ _ hx).2 g
/-- sorted(xs, key=f) -/
theorem cr_srtF (F : FnOk X.prog X.w X.K X.mg X.base CX0 k f fd ps sp) (hr : Room (k + 2) X.A) (hb : Binds X.K fd ps []) : CallRK X (.builtin "sorted") [Str.ofString "key"] (rSrtF X.K f sp) := by
  intro pins s σ H vs zs us ws Q I r rz h
  obtain ⟨l, bs, G, rfl, rfl, hs, hG, hsp, q⟩ := h
  obtain rfl := Vals.ref1 r
  obtain ⟨w1, rfl, e1⟩ := vals1 rz
  obtain rfl : w1 = Value.ref f := e1
  obtain ⟨its, rv, hl, hz⟩ := I.list hs
  have ev := vals_map rv
  have hlen := each_len ev
  have hz' : its.length ≤ sizeLine := by
    rw [List.length_map] at hz
    omega
  have hcs : (PySem.W.copyHeap s.heap its).objs.size = s.heap.objs.size + 2 := by
    unfold PySem.W.copyHeap
    rw [size_push', Heap.size_update, size_push']
  refine PySem.W.sorted_of_sort hl.isList hz' (ksk_s1 _ _) (fun _ => ksk_l1 _ _) fun E' => ?_
  have ho := PySem.W.copyHeap_at s.heap its
  generalize hh : PySem.W.copyHeap s.heap its = h0 at ho hcs ⊢
  have old0 : ∀ b o, s.heap.get? b = some o → h0.get? b = some o := fun b o e => by rw [← hh]; exact PySem.W.copyHeap_old e
  generalize ha : s.heap.objs.size + 1 = a at ho ⊢
  have hna : ∀ b o, s.heap.get? b = some o → b ≠ a := fun b o e => by
    have h3 := Heap.lt_size e
    rw [← ha]
    exact Nat.ne_of_lt (Nat.lt_succ_of_lt h3)
  show wpAny _ _ (Builtin.«list.sort» ⟨[.ref a], [(Str.ofString "key", .ref f)]⟩) _ _ _
  rw [ksk_t1]
  obtain ⟨e1, ho1⟩ : ∃ e1, (h0.update a (Obj.mapSeq fun _ => (#[] : Array Value))).get? a = some (seqObj "list" #[] e1) := ⟨_, get?_update_seq ho fun _ => #[]⟩
  unfold ksk_tree
  refine wpAny_bind (listItems_at ho rfl (wpAny_bind (listUpdate_at ho rfl ?_ (by rw [List.size_toArray]; exact hz') (Nat.zero_le _))))
  refine wpAny_bind (seqEpoch_at ho1 rfl (wpAny_bind (wpAny_newTuple ?_ (by show its.length ≤ _; exact hz'))))
  refine wpAny_bind (wpAny_newList (wpAny_holding ?_) (Nat.zero_le _))
  have hcz : ((h0.update a (Obj.mapSeq fun _ => (#[] : Array Value))).push (seqObj "tuple" its.toArray 0)).objs.size = s.heap.objs.size + 3 := by rw [size_push', Heap.size_update, hcs]
  have gold : ∀ b o, b ≠ a → h0.get? b = some o → (((h0.update a (Obj.mapSeq fun _ => (#[] : Array Value))).push (seqObj "tuple" its.toArray 0)).push (seqObj "list" #[] 0)).get? b = some o := fun b o hb e => PySem.W.sortingHeap_old hb e
  refine srtF_rest F hr hb I ev hz' hsp (a := a) (c := ((h0.update a (Obj.mapSeq fun _ => (#[] : Array Value))).push (seqObj "tuple" its.toArray 0)).objs.size) (e1 := e1)
    (I.kept (t' := s.toks) fun b u e => gold b u (hna b u e) (old0 b u e)) hG (by rw [← ha]; exact Nat.le_succ _) (by rw [hcz]; exact Nat.le_add_right _ _) (by rw [hcz, ← ha]; exact fun z => absurd (show s.heap.objs.size + 3 = s.heap.objs.size + 1 from z) (by omega)) (Heap.get?_push_of_some _ (Heap.get?_push_of_some _ ho1)) (Heap.get?_push_size _ rfl) fun H' s2 hG' na J => ⟨rfl, ?_⟩
  exact ⟨.ref a, _, J, rfl, q H' a hG' na⟩
end
end Ks
set_option maxRecDepth 100000
set_option maxHeartbeats 4000000
namespace Ks
open PySem PySem.Spec PyProof.Rows L2
/-! ### list.extend of a tuple -/
set_option maxRecDepth 8000 in
theorem extend_tup (l : Addr) (items : Array Value) (n : Nat) (b : Addr) (od : Option Addr) (sl : Array (Option Value)) (more : Array Value) (m : Nat) (h0 : ¬(!items.isEmpty && Builtin.List.listTooLong (items.size + more.size)) = true) (h1 : items.size ≤ sizeLine) (h2 : items.size + more.size ≤ sizeLine + 1) :
    Meets (Builtin.«list.extend» ⟨[.ref l, .ref b], []⟩) (fun _ R s => s.heap.get? l = some { cls := .type "list", dict := none, data := .seq items n, slots := #[] } ∧
      s.heap.get? b = some { cls := .type "tuple", dict := od, data := .seq more m, slots := sl } ∧ R (.ok (.ret Value.none)) { s with heap := s.heap.update l (Obj.mapSeq fun x => x ++ more) }) :=
  .of_wp fun prog w A R s h => by
    obtain ⟨hp, g, d, tk, os⟩ := s
    obtain ⟨hl, hb, h⟩ := h
    have f1 := AutoSeq1.sub_tuple_tuple
    have f2 := AutoSeq1.sub_list_list
    have f3 := AutoSeq1.sub_tuple_list
    have f4 := AutoSeq1.sub_list_tuple
    have hz' : (items ++ more).size ≤ sizeLine + 1 := by rw [Array.size_append]; exact h2
    wp_walk using (wpAny_updateSeq hl rfl (hz := h1) (_hz' := hz')), wpAny_loadPart' hl, wpAny_loadPart' hb
    exact ⟨_, rfl, h⟩
section
variable {X : Cx}
def rExtT (K : PySem.W.Frag) : V → List V → Hp → VK → Prop := fun x vs H Q => ∃ l b xs zs, x = .ref l ∧ vs = [.ref b] ∧ H l = some (.lst xs) ∧ SqT K H b zs ∧ xs.length + zs.length ≤ sizeLine ∧ Q .non (upd H l (.lst (xs ++ zs)))
theorem mt_extT : MtM X "list.extend" (rExtT X.K) := by
  intro pins s σ H x vs v us Q I rx rv h
  obtain ⟨l, b, xs, zs, rfl, rfl, hH, hB, hz, q⟩ := h
  cases rx
  obtain ⟨u, rfl, ru⟩ := rv.one
  cases ru
  obtain ⟨z, its, n, r, hl, e⟩ := I.lstM hH
  obtain ⟨its2, r2, ⟨o, e2, hc, m, hd⟩, hz2⟩ := I.tuple hB
  have hl2 := r2.length
  obtain ⟨oc, od, dt, sl⟩ := o
  dsimp only at hc hd
  subst hc hd
  have hsz : its.toArray.size + its2.toArray.size ≤ sizeLine := by rw [List.size_toArray, List.size_toArray]; omega
  have hlong : ¬ (!its.toArray.isEmpty && Builtin.List.listTooLong (its.toArray.size + its2.toArray.size)) = true := by
    rw [notLongL hsz, Bool.and_false]
    decide
  refine call_meets F.slot_list_extend ⟨_, e, rfl⟩ F.entry_list_extend (F.args_list_extend_2 _ _) (extend_tup l its.toArray n b od sl its2.toArray m hlong (by rw [List.size_toArray]; omega) (by omega)) ⟨e, e2, ?_⟩
  refine ⟨.non, _, I.lset (its' := its ++ its2) hH e (by simp) (r.append r2) ?_, rfl, q⟩
  rw [List.length_append]
  omega
/-! ### sum of a tuple of whole numbers -/
theorem preSum_take (ns : List Int) : ∀ j, preSum (fun i => ns.getD i 0) j = (ns.take j).sum
  | 0 => by simp [preSum]
  | j + 1 => by
    rw [preSum, preSum_take ns j, List.take_add_one, List.sum_append]
    cases h : ns[j]? with
    | none => simp [h]
    | some x => simp [h]
def rSumT (K : PySem.W.Frag) : List V → Hp → VK → Prop := fun vs H Q => ∃ (a : Addr) (ns : List Int), vs = [V.ref a] ∧ SqT K H a (ns.map V.int) ∧ Q (.int ns.sum) H
theorem cr_sumT (hc : X.calm = true) : CallR X (.builtin "sum") (rSumT X.K) := by
  intro pins s σ H vs us Q I r h
  obtain ⟨a, ns, rfl, hs, q⟩ := h
  obtain ⟨its, rv, ht, _⟩ := I.tuple hs
  rw [Vals.ref1 r]
  have hlt : a < s.heap.objs.size := ht.lt
  have hln := rv.length
  rw [List.length_map] at hln
  refine call_sum_walkG (wpAny_pyIter_tuple (show s.heap.IsTuple a its.toArray from ht) ⟨s.heap.objs.size, _, _, _, _, _, fun i => ns.getD i 0, rfl, Walks.tuple (A := X.A.in1) (I.ok.hd hc) s.heap.objs.size a (Nat.ne_of_lt hlt) its.toArray,
    ⟨⟨_, Heap.get?_push_size _ rfl, rfl, rfl⟩, ?_⟩, fun b hb => ?_, fun i v hv => ?_, fun h' tk t' hk => ?_⟩)
  · obtain ⟨o, ho, hc', hd⟩ := ht
    exact ⟨o, Heap.get?_push_of_some _ ho, hc', hd⟩
  · show b < (s.heap.push _).objs.size
    rw [Heap.size_push]
    rcases List.mem_cons.mp hb with rfl | hb
    · exact Nat.lt_succ_self _
    · rw [List.mem_singleton.mp hb]
      exact Nat.lt_succ_of_lt hlt
  · have hi : i < its.length := by
      have := (Array.getElem?_eq_some_iff.mp hv).1
      rwa [List.size_toArray] at this
    have e1 : (ns.map V.int)[i]? = some (V.int (ns.getD i 0)) := by
      rw [List.getElem?_map, List.getD_eq_getElem?_getD, List.getElem?_eq_getElem (by omega)]
      rfl
    obtain ⟨u, hu, t, rfl⟩ := rv.get e1
    rw [List.getElem?_toArray, hu] at hv
    exact ⟨t, (Option.some.inj hv).symm⟩
  · have e : preSum (fun i => ns.getD i 0) its.toArray.size = ns.sum := by
      rw [List.size_toArray, ← hln, preSum_take, List.take_length]
    rw [e]
    refine ⟨.int ns.sum, H, I.kept (t' := tk) fun b u g => hk b u (fun hm => ?_) (Heap.get?_push_of_some _ g), ⟨t', rfl⟩, q⟩
    have g2 := Heap.lt_size g
    rw [List.mem_singleton.mp hm] at g2
    exact absurd g2 (Nat.lt_irrefl _)
/-! ### sum(o.values()) of a dict with whole numbers -/
def tSumVals (td : TE) : TE := fun σ H Q => td σ H fun x H1 => ∃ (a : Addr) (kvs : List (Key × V)) (ns : List Int), x = V.ref a ∧ H1 a = some (.dK kvs) ∧ kvs.map (·.2) = ns.map V.int ∧ Q (.int ns.sum) H1
theorem pe_sumVals {o : Expr} {p pos apos mpos : Pos} {td : TE} (hc : X.calm = true) (hg : Gl X "sum") (hm : X.mg "sum" = none) (hd : PE X o td) (hbase : attributeBase o "values" X.env (eval o X.env) = eval o X.env := by rfl) (hline : (apos.endLine == mpos.line) = true := by rfl)
    (hse : starEach [Expr.Call (.Attribute o "values" apos) [] [] mpos] X.env = [(false, eval (Expr.Call (.Attribute o "values" apos) [] [] mpos) X.env)] := by rfl) :
    PE X (.Call (.Name "sum" p) [.Call (.Attribute o "values" apos) [] [] mpos] [] pos) (tSumVals td) := by
  refine ⟨fun pins s σ H Q I h => ?_⟩
  refine wpAny_Call_Name_kw (ld_blt I hg hm (u := .builtin "sum") (by decide +kernel) ?_ (by decide) (by decide))
  rw [hse]
  refine PySem.callWith_builtin1 (wpAny_Call_method0_late hbase hline (thn (hd.run pins s σ H _ I h) fun v s1 ⟨x, H1, I1, r1, a, kvs, ns, ex, ha, hv, q⟩ => ?_))
  subst ex
  obtain rfl : v = Value.ref a := r1
  obtain ⟨_, hsys, vs, rel, dof⟩ := dk_of I1.hok ha
  obtain ⟨ep, dat⟩ := dof.dictAt
  obtain ⟨ob, es, ho, ex, hdat, hko, hpr, hnd⟩ := id dat
  refine ⟨"dict", "dict.values", F.plainAttrs_dict, F.slot_dict_values, F.type_dict_values, ⟨ob, ho, ex.1⟩, fun b e => ?_, Calls.callWith_builtin rfl (PySem.evalArgs_none ?_)⟩
  · cases e
    exact ⟨ob, ho, ex.2.1⟩
  refine call_meetsIn F.slot_dict_values ⟨ob, ho, ex.1⟩ F.entry_dict_values (F.args_dict_values_1 _) (meets_dict_values (mixKind X.prog X.w) a hsys) ⟨⟨vs, dof⟩, ?_⟩
  have hlt : a < s1.heap.objs.size := Heap.lt_size ho
  generalize hv0 : ({ cls := .type "dict_values", data := .fields #[.ref a] } : Obj) = vo
  have k1 : ∀ b u, s1.heap.get? b = some u → (s1.heap.push vo).get? b = some u := fun b u e => Heap.get?_push_of_some _ e
  have hlv : vs.length = ns.length := by
    have e1 := congrArg List.length hv
    rw [List.length_map, List.length_map] at e1
    rw [← e1]
    exact (KV.length rel).symm
  have hval : ∀ (i : Nat) (v : Value), (∃ k, vs[i]? = some (k, v)) → ∃ t, v = Value.int (ns.getD i 0) t := fun i v ⟨k, hk⟩ => by
    obtain ⟨x, g1, g2⟩ := KV.at' rel hk
    have e1 : (kvs.map (·.2))[i]? = some x := by rw [List.getElem?_map, g1]; rfl
    rw [hv, List.getElem?_map] at e1
    obtain ⟨j, hj, rfl⟩ := Option.map_eq_some_iff.mp e1
    obtain ⟨t, rfl⟩ := g2
    exact ⟨t, by rw [List.getD_eq_getElem?_getD, hj]; rfl⟩
  have hsz : (s1.heap.push vo).objs.size = s1.heap.objs.size + 1 := Heap.size_push _ _
  have hnew : (s1.heap.push vo).get? s1.heap.objs.size = some vo := Heap.get?_push_size _ (by rw [← hv0]; rfl)
  refine call_sum_walkG (wpAny_pyIter_values (v := s1.heap.objs.size) (d := a) ⟨vo, hnew, by rw [← hv0], by rw [← hv0]⟩ (dat.keep k1) ?_)
  refine ⟨_, _, _, _, _, _, fun i => ns.getD i 0, rfl, Walks.dictValues (knd := mixKind X.prog X.w) (A := X.A.in1) (I.ok.hd hc) (s1.heap.push vo).objs.size a (by rw [hsz]; exact Nat.ne_of_lt (Nat.lt_succ_of_lt hlt)) vs ep,
    ⟨⟨_, Heap.get?_push_size _ rfl, rfl, rfl⟩, (dat.keep k1).keep fun b u e => Heap.get?_push_of_some _ e⟩, fun b hb => ?_, hval, fun h' tk t' hk => ?_⟩
  · show b < ((s1.heap.push _).push _).objs.size
    rw [Heap.size_push, hsz]
    rw [hsz] at hb
    rcases List.mem_cons.mp hb with rfl | hb
    · exact Nat.lt_succ_self _
    · rw [List.mem_singleton.mp hb]
      exact Nat.lt_succ_of_lt (Nat.lt_succ_of_lt hlt)
  · have e : preSum (fun i => ns.getD i 0) vs.length = ns.sum := by rw [hlv, preSum_take, List.take_length]
    rw [e]
    refine ⟨.int ns.sum, H1, I1.kept (t' := tk) fun b u g => hk b u (fun hm => ?_) (Heap.get?_push_of_some _ (k1 b u g)), ⟨t', rfl⟩, q⟩
    have g2 := Heap.lt_size g
    rw [List.mem_singleton.mp hm, hsz] at g2
    exact absurd g2 (Nat.not_lt.mpr (Nat.le_succ _))
/-! ### d.update(xs), xs a list of pairs -/
def rUpdP (K : PySem.W.Frag) : V → List V → Hp → VK → Prop := fun x vs H Q => ∃ (d a : Addr) (ps : List Addr) (old kvs : List (Key × V)), x = .ref d ∧ vs = [.ref a] ∧ H d = some (.dK old) ∧ H a = some (.lst (ps.map V.ref)) ∧ Paired (fun p (kv : Key × V) => H p = some (.tup [kV kv.1, kv.2])) ps kvs ∧
  old.length + kvs.length ≤ sizeLine ∧ Q .non (upd H d (.dK (mergeK old kvs)))
theorem mt_updP (hcalm : X.calm = true) : MtM X "dict.update" (rUpdP X.K) := by
  intro pins s σ H x vs v us Q I rx rv h
  obtain ⟨d, a, ps, old, kvs, rfl, rfl, hd, ha, hp, hz, q⟩ := h
  cases rx
  obtain ⟨u, rfl, ru⟩ := rv.one
  cases ru
  obtain ⟨_, hsys, vs0, rel0, dof⟩ := dk_of I.hok hd
  obtain ⟨its, rl, pl, hzl⟩ := I.list (sqL ha)
  have ei := refs_at rl
  subst ei
  obtain ⟨prs, rel, hl, hpr⟩ := pairs_of I (Paired.mapP hp fun p kv e => sqT e)
  obtain ⟨o, n, ho, hc, hdict, hdat⟩ := pl
  have hda : d ≠ a := fun e => by rw [e, ha] at hd; cases hd
  have hdp : ∀ p ∈ ps, d ≠ p := fun p hm => by
    obtain ⟨i, hi⟩ := List.getElem?_of_mem hm
    have : ∃ xs, H p = some (.tup xs) := by
      clear hz q rel hl hpr ho hc hdat rl rv hzl ha hda
      induction hp generalizing i with
      | nil => cases hm
      | cons r _ ih =>
        rcases List.mem_cons.mp hm with rfl | hm
        · exact ⟨_, r⟩
        · obtain ⟨j, hj⟩ := List.getElem?_of_mem hm
          exact ih hm j hj
    obtain ⟨xs, e⟩ := this
    intro z
    rw [z, e] at hd
    cases hd
  have hkl : kvs.length = prs.length := rel.length
  -- the pairs as values, by their addresses
  obtain ⟨ks, hks, hkv⟩ : ∃ ks : List (Value × Value), ks.length = prs.length ∧ ∀ (j : Nat) (k v : Value), ks[j]? = some (k, v) → ∃ (b : Addr) (q : Key × Value), ps[j]? = some b ∧ prs[j]? = some q ∧ q.2 = v ∧ IsTup s.heap b #[k, v] ∧ keyIs q.1 k = true := by
    clear hz q rel ho hc hdat rl rv hzl hkl hdp hp ha hda
    induction prs generalizing ps with
    | nil => exact ⟨[], rfl, fun j k v e => by simp at e⟩
    | cons q r ih =>
      cases ps with
      | nil => simp at hl
      | cons p ps =>
        obtain ⟨b, u, e1, e2, e3⟩ := hpr 0 q rfl
        have hb : p = b := by simpa using e1
        subst hb
        obtain ⟨ks, h1, h2⟩ := ih ps (by simpa using hl) fun j q' e => by
          obtain ⟨b, u, f1, f2, f3⟩ := hpr (j + 1) q' (by simpa using e)
          exact ⟨b, u, by simpa using f1, f2, f3⟩
        refine ⟨(u, q.2) :: ks, by simp [h1], fun j k v e => ?_⟩
        cases j with
        | zero =>
          have e' : (u, q.2) = (k, v) := by simpa using e
          cases e'
          exact ⟨p, q, rfl, rfl, rfl, e2, e3⟩
        | succ j =>
          obtain ⟨b, q', f⟩ := h2 j k v (by simpa using e)
          exact ⟨b, q', by simpa using f.1, by simpa using f.2.1, f.2.2⟩
  have P := PairArg.list (prog := X.prog) (w := X.w) a (ps.map Value.ref).toArray (fun j => ps.getD j 0) ks
  refine PySem.call_update_pairs (knd := mixKind X.prog X.w) (acc := vs0) (kvs := prs) P (I.ok.hd hcalm) ⟨⟨o, n, ho, hc, hdict, hdat⟩, by simp [hks, hl], fun j k v e => ?_⟩ ?_ ⟨hks.symm, fun j k v e => ?_⟩ dof ?_ fun h' tk hd' hk => ?_
  · obtain ⟨b, q', e1, e2, e3, e4, e5⟩ := hkv j k v e
    have eb : ps.getD j 0 = b := by rw [List.getD_eq_getElem?_getD, e1]; rfl
    refine ⟨by simp [e1], ?_⟩
    show PairAt s.heap (ps.getD j 0) k v
    rw [eb]
    exact .inl e4
  · intro hm
    rcases List.mem_cons.mp hm with e | hm
    · exact hda e
    · obtain ⟨j, hj, e⟩ := List.mem_map.mp hm
      have hj := List.mem_range.mp hj
      have hj' : j < ps.length := by omega
      have eb : ps.getD j 0 = ps[j] := by rw [List.getD_eq_getElem?_getD, List.getElem?_eq_getElem hj']; rfl
      rw [eb] at e
      exact hdp _ (List.getElem_mem hj') e.symm
  · obtain ⟨b, q', e1, e2, e3, e4, e5⟩ := hkv j k v e
    exact ⟨q'.1, by rw [e2, ← e3], e5⟩
  · have := KV.length rel0
    omega
  · have hlen : (mergeK old kvs).length ≤ sizeLine := Nat.le_trans (length_mergeK kvs old) hz
    obtain ⟨o2, es2, ep2, ho2, _⟩ := id hd'
    exact ⟨.non, upd H d (.dK (mergeK old kvs)), I.write (x := d) (e := d) (o := .dK (mergeK old kvs)) (t' := tk) (by rw [hd]; trivial) (.inl rfl) (fun b u hb hu => hk b u hb (fun z => nomatch z) hu) ⟨_, ho2⟩ ⟨hlen, hsys, _, KV.merge rel rel0, hd'⟩, rfl, q⟩
end
end Ks
set_option maxRecDepth 100000
set_option maxHeartbeats 4000000
namespace Ks
open PySem PySem.Spec PyProof.Rows L2
/-! ### enumerate of a tuple -/
set_option maxHeartbeats 1000000 in
theorem new_enum {v : Value} {o : Obj} {Hh : Heap → Prop} (B : Begins v o Hh) :
    Meets (Builtin.«enumerate.__new__» ⟨[.type "enumerate", v], []⟩) (fun _ R s => Hh s.heap ∧
      R (.ok (.ret (.ref (s.heap.push o).objs.size))) { s with heap := (s.heap.push o).push { cls := .type "enumerate", data := .fields #[.none, .bool false, .ref s.heap.objs.size, rawInt 0, .none, .none] } }) :=
  .of_wp fun prog w A R s h => by
    obtain ⟨hp, g, d, tk, os⟩ := s
    obtain ⟨h1, h⟩ := h
    have hsub := sub_enumerate
    have it : ∀ {A' : Around} {E : Value → Shared → Prop} {Q : Value → Shared → Prop}, Q (.ref hp.objs.size) ⟨hp.push o, g, d, tk, os⟩ → wpAny (model prog w) A' (pyIter v) Q E ⟨hp, g, d, tk, os⟩ := fun q => B.iter prog w _ _ ⟨hp, g, d, tk, os⟩ _ h1 q
    wp_walk using it
    refine wpAny_stack_any fun st => wpAny_pure ?_
    split
    · rename_i c _ _ _ _ _
      cases (c == Value.type "enumerate")
      · wp_walk using it
        exact ⟨_, rfl, h⟩
      · wp_walk using it
        exact ⟨_, rfl, h⟩
    · wp_walk using it
      exact ⟨_, rfl, h⟩
theorem call_enum {prog : Program} {w : World} {A : Around} {E : Value → Shared → Prop} {s : Shared} {v : Value} {o : Obj} {Hh : Heap → Prop} {Q : Value → Shared → Prop} (B : Begins v o Hh) (h1 : Hh s.heap)
    (h : ∀ h', IsEnum h' (s.heap.objs.size + 1) s.heap.objs.size 0 .none → h'.get? s.heap.objs.size = some o → (∀ b u, s.heap.get? b = some u → h'.get? b = some u) → Q (.ref (s.heap.objs.size + 1)) { s with heap := h' }) :
    wpAny (model prog w) A (call (.type "enumerate") [v]) Q E s := by
  refine callType_new F.called_enumerate (by decide) (F.typeCall_enumerate_1 _) (F.newCall_enumerate_1 _) (fun obj => F.args_object_init_2 obj _) F.entry_enumerate_new (new_enum B) ⟨h1, ?_⟩
  have hz : (s.heap.push o).objs.size = s.heap.objs.size + 1 := Heap.size_push ..
  have he := Heap.get?_push_size (s.heap.push o) (o := { cls := .type "enumerate", data := .fields #[.none, .bool false, .ref s.heap.objs.size, rawInt 0, .none, .none] }) rfl
  show _ ∧ _
  rw [hz] at he ⊢
  exact ⟨⟨_, he, rfl⟩, h _ he (Heap.get?_push_of_some _ (Heap.get?_push_size _ B.free)) fun b u x => Heap.get?_push_of_some _ (Heap.get?_push_of_some _ x)⟩
/-- the tuple at a, each item in a new pair with its number -/
def IteT (K : PySem.W.Frag) (a : Addr) : It :=
  ⟨fun i H => ∃ (xs : List V) (x : V), SqT K H a xs ∧ xs[i]? = some x, fun i H v H' => ∃ T x, v = .ref T ∧ H T = none ∧ H' = upd H T (.tup [.int (i : Nat), x]) ∧ ∀ xs, SqT K H a xs → xs[i]? = some x, fun i H => ∃ xs : List V, SqT K H a xs ∧ xs.length = i⟩
theorem turn_enumT {P : Program} {w : World} {K : PySem.W.Frag} {elts : List Expr} {kk : Nat} {tpos : Pos} (a e it : Addr) :
    Turn P w K (.Tuple elts kk tpos) (IteT K a) [e, it] e (fun i h => (∃ old, IsEnum h e it ((i : Nat) : Int) old) ∧ h.IsTupleIter it a i ∧ e ≠ it) where
  mem := by simp
  obj := fun i h st b hb => by
    obtain ⟨⟨old, he⟩, ⟨o, ho, hc, hd⟩, _⟩ := st
    rcases List.mem_cons.mp hb with rfl | hb
    · exact ⟨_, he, fun v q => nomatch q⟩
    · rw [List.mem_singleton.mp hb]
      exact ⟨o, ho, fun v q => by rw [hd] at q; cases q⟩
  keep := fun i h h' st k => ⟨st.1.imp fun old he => k e (by simp) _ he, st.2.1.at fun o q => k it (by simp) o q, st.2.2⟩
  item := by
    intro X hP hw hK hc i pins s σ H E I hf st hg
    subst hP hw hK
    obtain ⟨⟨old, he⟩, hit, hne⟩ := st
    obtain ⟨xs, x, hq, hx⟩ := hg
    obtain ⟨its, rv, p, hz⟩ := I.tuple hq
    obtain ⟨u, hu, ru⟩ := rv.get hx
    have hel : e < s.heap.objs.size := Heap.lt_size he
    have hil : it < s.heap.objs.size := by
      obtain ⟨_, q, _⟩ := hit
      exact Heap.lt_size q
    have hal : a < s.heap.objs.size := p.lt
    -- what stands at a is tracked (or written): it is no iterator
    obtain ⟨oa, ha, hca, _⟩ := id p
    have hae : a ≠ e := fun z => by
      rw [z, he] at ha
      cases ha
      exact absurd (show Value.type "enumerate" = Value.type "tuple" from hca) (by decide)
    have hai : a ≠ it := fun z => by
      obtain ⟨oi, hi, hci, _⟩ := hit
      rw [z, hi] at ha
      cases ha
      rw [hci] at hca
      exact absurd hca (by decide)
    have D := Draws.tuple (prog := X.prog) (w := X.w) (A := X.A.in1) (I.ok.hd hc) it a hai its.toArray
    have hlt : i < its.toArray.size := by
      rw [List.size_toArray]
      exact (List.getElem?_eq_some_iff.mp hu).1
    refine wpAny_pyNext_enum_itemC D he ⟨hit, show s.heap.IsTuple a its.toArray from p⟩ hlt hne (by simp [hne, Ne.symm hae]) fun y h' tk hy ho hs' hT hsz hk => ?_
    have ey : y = u := by
      rw [List.getElem?_toArray, hu] at hy
      exact (Option.some.inj hy).symm
    subst ey
    refine ⟨_, rfl, wpAny_letOwnedTupleGo_enum (s := { s with heap := h', toks := tk + 1 }) ho fun h'' he' sb => ?_⟩
    have hT2 : h''.get? s.heap.objs.size = some { cls := .type "tuple", data := .seq #[.int i tk, y] } := (sb.2 _ (Nat.ne_of_gt hel)).trans hT
    have new : ObjOk X.prog X.w (upd H s.heap.objs.size (.tup [.int (i : Nat), x])) h'' s.heap.objs.size (.tup [.int (i : Nat), x]) :=
      ⟨by show 2 ≤ sizeLine; decide, [.int i tk, y], .cons ⟨_, rfl⟩ (.cons ru .nil), ⟨_, hT2, rfl, _, rfl⟩⟩
    have J : Inv X pins σ (upd H s.heap.objs.size (.tup [.int (i : Nat), x])) { s with heap := h'', toks := tk + 1 } :=
      I.turnedNew (ch := [e, it]) (fun b ob hb q => (sb.2 b (fun z => hb (by simp [z]))).trans (hk b ob (fun z => hb (by simp [z])) (fun z => hb (by simp [z])) q)) hf (Nat.le_refl _) new
    refine ⟨.ref s.heap.objs.size, _, J, rfl, ⟨_, x, rfl, I.hok.fresh (Nat.le_refl _), rfl, fun ys hy => by rw [I.tuple_inj hy hq]; exact hx⟩, ⟨⟨y, ?_⟩, hs'.1.at fun o q => (sb.2 it (Ne.symm hne)).trans q, hne⟩, fun b hb => ?_⟩
    · rw [show ((i + 1 : Nat) : Int) = (i : Int) + 1 by omega]
      exact he'
    · have hb' : b ≠ s.heap.objs.size := by
        rcases List.mem_cons.mp hb with rfl | hb
        · exact Nat.ne_of_lt hel
        · rw [List.mem_singleton.mp hb]
          exact Nat.ne_of_lt hil
      rw [upd_ne hb']
      exact (hf b hb).1
  done := by
    intro X hP hw hK hc i pins s σ H E I hf st hg
    subst hP hw hK
    obtain ⟨⟨old, he⟩, hit, hne⟩ := st
    obtain ⟨xs, hq, hx⟩ := hg
    obtain ⟨its, rv, p, hz⟩ := I.tuple hq
    obtain ⟨oa, ha, hca, _⟩ := id p
    have hai : a ≠ it := fun z => by
      obtain ⟨oi, hi, hci, _⟩ := hit
      rw [z, hi] at ha
      cases ha
      rw [hci] at hca
      exact absurd hca (by decide)
    have D := Draws.tuple (prog := X.prog) (w := X.w) (A := X.A.in1) (I.ok.hd hc) it a hai its.toArray
    have hl := rv.length
    have hi : i = its.toArray.size := by
      rw [List.size_toArray]
      omega
    subst hi
    exact wpAny_pyNext_enum_endD D he ⟨hit, show s.heap.IsTuple a its.toArray from p⟩ fun h' eb => ⟨rfl, I.turnedL (t' := s.toks) (ch := [e, it]) (fun b o hb q => eb b o (fun z => hb (by simp [z])) q) hf⟩
  self := fun A i s Q E st h => let ⟨⟨_, he⟩, _⟩ := st; wpAny_pyIter_enum he h
def iEnumT (K : PySem.W.Frag) (ta : TA) : TI := fun σ H R => ta σ H fun vs H1 => ∃ a xs, vs = [.ref a] ∧ SqT K H1 a xs ∧ R (IteT K a) H1
theorem pi_enumT {X : Cx} {e : Expr} {ta : TA} {p pos tpos : Pos} {elts : List Expr} {kk : Nat} (hg : Gl X "enumerate") (hm : X.mg "enumerate" = none) (ha : PA X [e] ta) (hs : starEach [e] X.env = [(false, eval e X.env)] := by rfl) :
    PI X (.Tuple elts kk tpos) (.Call (.Name "enumerate" p) [e] [] pos) (iEnumT X.K ta) := by
  refine ⟨fun pins s σ H R I h => ?_⟩
  refine Call_ (ld_blt I hg hm boot_enumerate (PyProof.Rows.callWith_type1 (thn (ha.run pos pins s σ H _ I h) fun us s1 ⟨vs, H1, I1, r1, q1⟩ => ?_) hs rfl))
  obtain ⟨a, xs, rfl, hq, q⟩ := q1
  obtain rfl := Vals.ref1 r1
  obtain ⟨its, rv, p', hz⟩ := I1.tuple hq
  refine call_enum (begins_tuple a its.toArray) p' fun h' he hit hk => wpAny_pyIter_enum he ?_
  refine ⟨s1.heap.objs.size + 1, [s1.heap.objs.size + 1, s1.heap.objs.size], _, _, H1, rfl, I1.kept (t' := s1.toks) hk, turn_enumT a (s1.heap.objs.size + 1) s1.heap.objs.size, ⟨⟨.none, he⟩, ⟨_, hit, rfl, rfl⟩, Nat.succ_ne_self _⟩, fun b hb => ?_, q⟩
  have hle : s1.heap.objs.size ≤ b := by
    rcases List.mem_cons.mp hb with rfl | hb
    · exact Nat.le_succ _
    · rw [List.mem_singleton.mp hb]
      exact Nat.le_refl _
  exact I1.fpOk hle (I1.hok.fresh hle)
theorem walk_enumT {K : PySem.W.Frag} {a : Addr} {xs : List V} : Walk (IteT K a) xs.length (fun H => SqT K H a xs) (fun i H v H' => ∃ T x, v = .ref T ∧ H T = none ∧ H' = upd H T (.tup [.int (i : Nat), x]) ∧ xs[i]? = some x) where
  goes := fun i H hi h => ⟨xs, xs[i], h, List.getElem?_eq_getElem hi⟩
  stops := fun H h => ⟨xs, h, rfl⟩
  yields := fun i H v H' hi h ⟨T, x, e1, e2, e3, f⟩ => ⟨T, x, e1, e2, e3, f xs h⟩
/-! ### zip of a tuple and a list -/
/-- a tuple that is known stands apart from what is not tracked -/
theorem src_ne {X : Cx} {pins : List (Addr × Obj)} {σ : L2.St} {H : Hp} {s : Shared} {a T : Addr} {xs : List V} (I : Inv X pins σ H s) (h : SqT X.K H a xs) (hT : FpOk X pins H T) : a ≠ T := by
  obtain ⟨n, _, _, ex, _, _⟩ := hT
  rcases h with (h | ⟨o, h⟩) | ⟨o, its, n', hk, _⟩
  · exact ne_of_none h n
  · exact ne_of_none h n
  · have hb := I.ok.mod.kin a o hk
    intro e
    rcases ex with ex | ex
    · exact I.ok.noex a o hb (e ▸ ex)
    · have h1 := Nat.lt_of_lt_of_le (Heap.lt_size hb) (Nat.le_trans I.ok.bsz ex)
      rw [e] at h1
      exact Nat.lt_irrefl _ h1
/-- the iterators stand apart from the sources -/
theorem sep_of {X : Cx} {pins : List (Addr × Obj)} {σ : L2.St} {H : Hp} {s : Shared} {z TI TO i1 i2 a b : Addr} {i : Nat} {its its2 : List Value} {x y : Value} (D : [z, TI, TO, i1, i2].Nodup) (I : Inv X pins σ H s) (hf : ∀ b ∈ [z, TI, TO, i1, i2], FpOk X pins H b)
    (h1 : s.heap.IsTupleIter i1 a i) (h2 : s.heap.IsListIter i2 b i) (p : IsTup s.heap a its.toArray) (p2 : PlainL s.heap b its2.toArray) (hz : IsZip s.heap z TI TO .none) (hTI : IsTupOf2 s.heap TI (.ref i1) (.ref i2)) (hTO : IsTupOf2 s.heap TO x y) (hTa : a ≠ TO) :
    ZipSep2 z TI TO i1 i2 [i1, a] [i2, b] ∧ a ≠ i1 ∧ b ≠ i2 := by
  obtain ⟨oa, ha, hca, _⟩ := p
  obtain ⟨ob, m, hb, hcb, _⟩ := p2
  obtain ⟨o1, g1, hc1, _⟩ := h1
  obtain ⟨o2, g2, hc2, _⟩ := h2
  have ne : ∀ {c d : Addr} {oc od : Obj} {S T : String}, s.heap.get? c = some oc → s.heap.get? d = some od → oc.cls = .type S → od.cls = .type T → S ≠ T → c ≠ d := fun gc gd ec ed h e => by
    rw [e, gd] at gc
    cases gc
    rw [ec] at ed
    exact h (by injection ed)
  simp only [List.nodup_cons, List.mem_cons, List.not_mem_nil, or_false, not_or] at D
  have az : z ≠ a := ne hz ha rfl hca (by decide)
  have bz : z ≠ b := ne hz hb rfl hcb (by decide)
  have a1 : a ≠ i1 := ne ha g1 hca hc1 (by decide)
  have a2 : a ≠ i2 := ne ha g2 hca hc2 (by decide)
  have b1 : b ≠ i1 := ne hb g1 hcb hc1 (by decide)
  have b2 : b ≠ i2 := ne hb g2 hcb hc2 (by decide)
  have bT : TO ≠ b := ne hTO hb rfl hcb (by decide)
  exact ⟨⟨Ne.symm D.1.1, Ne.symm D.1.2.1, D.2.1.1, D.2.1.2.1, by simp, by simp [D.1.2.2.1, az], by simp [D.2.2.1.1, Ne.symm hTa], D.2.1.2.2, by simp, by simp [D.1.2.2.2, bz], by simp [D.2.2.1.2, bT], by simp [D.2.2.2.1, Ne.symm b1], by simp [Ne.symm D.2.2.2.1, Ne.symm a2]⟩, a1, b2⟩
def ItzM (K : PySem.W.Frag) (a b : Addr) : It :=
  ⟨fun i H => ∃ (xs ys : List V) (x y : V), SqT K H a xs ∧ SqL K H b ys ∧ xs[i]? = some x ∧ ys[i]? = some y,
    fun i H v H' => ∃ T x y, v = .ref T ∧ H T = none ∧ H' = upd H T (.tup [x, y]) ∧ (∀ xs, SqT K H a xs → xs[i]? = some x) ∧ ∀ ys, SqL K H b ys → ys[i]? = some y,
    fun i H => ∃ xs ys : List V, SqT K H a xs ∧ SqL K H b ys ∧ xs.length = i ∧ ys.length = i⟩
theorem turn_zipM {P : Program} {w : World} {K : PySem.W.Frag} {elts : List Expr} {kk : Nat} {tpos : Pos} {a b z TI TO i1 i2 : Addr} (D : [z, TI, TO, i1, i2].Nodup) :
    Turn P w K (.Tuple elts kk tpos) (ItzM K a b) [z, TI, TO, i1, i2] z (fun i h => IsZip h z TI TO .none ∧ IsTupOf2 h TI (.ref i1) (.ref i2) ∧ (∃ x y, IsTupOf2 h TO x y) ∧ h.IsTupleIter i1 a i ∧ h.IsListIter i2 b i) where
  mem := by simp
  obj := fun i h st c hc => by
    obtain ⟨hz, hTI, ⟨x, y, hTO⟩, ⟨o1, e1, _, d1⟩, ⟨o2, e2, _, d2⟩⟩ := st
    have q : c = z ∨ c = TI ∨ c = TO ∨ c = i1 ∨ c = i2 := by simpa using hc
    rcases q with rfl | rfl | rfl | rfl | rfl
    · exact ⟨_, hz, fun v q => nomatch q⟩
    · exact ⟨_, hTI, fun v q => nomatch q⟩
    · exact ⟨_, hTO, fun v q => nomatch q⟩
    · exact ⟨o1, e1, fun v q => by rw [d1] at q; cases q⟩
    · exact ⟨o2, e2, fun v q => by rw [d2] at q; cases q⟩
  keep := fun i h h' ⟨hz, hTI, ⟨x, y, hTO⟩, h1, h2⟩ k => ⟨k z (by simp) _ hz, k TI (by simp) _ hTI, ⟨x, y, k TO (by simp) _ hTO⟩, h1.at fun o q => k i1 (by simp) o q, h2.at fun o q => k i2 (by simp) o q⟩
  item := by
    intro X hP hw hK hc i pins s σ H E I hf st hg
    subst hP hw hK
    obtain ⟨hz, hTI, ⟨x0, y0, hTO⟩, h1, h2⟩ := st
    obtain ⟨xs, ys, x, y, hqx, hqy, hx, hy⟩ := hg
    obtain ⟨its, rv, p, _⟩ := I.tuple hqx
    obtain ⟨its2, rv2, p2, _⟩ := I.list hqy
    obtain ⟨u, hu, ru⟩ := rv.get hx
    obtain ⟨u2, hu2, ru2⟩ := rv2.get hy
    obtain ⟨S, n1, n2⟩ := sep_of D I hf h1 h2 p p2 hz hTI hTO (src_ne I hqx (hf TO (by simp)))
    have D1 := Draws.tuple (prog := X.prog) (w := X.w) (A := X.A.in1) (I.ok.hd hc) i1 a n1 its.toArray
    have D2 := Draws.list (prog := X.prog) (w := X.w) (A := X.A.in1) (I.ok.hd hc) i2 b n2 its2.toArray
    have hzl : z < s.heap.objs.size := Heap.lt_size hz
    refine wpAny_pyNext_zipD2_item S D1 D2 hz hTI hTO ⟨h1, show s.heap.IsTuple a its.toArray from p⟩ ⟨h2, p2.isList⟩ (by rw [List.size_toArray]; exact (List.getElem?_eq_some_iff.mp hu).1) (by rw [List.size_toArray]; exact (List.getElem?_eq_some_iff.mp hu2).1)
      fun y1 y2 h' tk hy1 hy2 hz' hTO' g1 g2 hT hsz hk => ?_
    obtain rfl : y1 = u := by
      rw [List.getElem?_toArray, hu] at hy1
      exact (Option.some.inj hy1).symm
    obtain rfl : y2 = u2 := by
      rw [List.getElem?_toArray, hu2] at hy2
      exact (Option.some.inj hy2).symm
    refine ⟨_, rfl, wpAny_letOwnedTupleGo_zip (s := { s with heap := h', toks := tk }) hz' fun h'' z'' sb => ?_⟩
    have hT2 : h''.get? s.heap.objs.size = some { cls := .type "tuple", data := .seq #[y1, y2] } := (sb.2 _ (Nat.ne_of_gt hzl)).trans hT
    have new : ObjOk X.prog X.w (upd H s.heap.objs.size (.tup [x, y])) h'' s.heap.objs.size (.tup [x, y]) :=
      ⟨by show 2 ≤ sizeLine; decide, [y1, y2], .cons ru (.cons ru2 .nil), ⟨_, hT2, rfl, _, rfl⟩⟩
    have nd := D
    simp only [List.nodup_cons, List.mem_cons, List.not_mem_nil, or_false, not_or] at nd
    have J : Inv X pins σ (upd H s.heap.objs.size (.tup [x, y])) { s with heap := h'', toks := tk } :=
      I.turnedNew (ch := [z, TI, TO, i1, i2]) (fun c o hb q => (sb.2 c (fun q' => hb (by simp [q']))).trans (hk c o (fun q' => hb (by simp [q'])) (fun q' => hb (by simp [q'])) (fun q' => hb (by simp [q'])) (fun q' => hb (by simp [q'])) q)) hf (Nat.le_refl _) new
    refine ⟨.ref s.heap.objs.size, _, J, rfl, ⟨_, x, y, rfl, I.hok.fresh (Nat.le_refl _), rfl, fun l hl => by rw [I.tuple_inj hl hqx]; exact hx, fun l hl => by rw [I.list_inj hl hqy]; exact hy⟩, ⟨z'', ?_, ⟨y1, y2, ?_⟩, ?_, ?_⟩, fun c hcm => ?_⟩
    · exact (sb.2 _ (Ne.symm nd.1.1)).trans (hk _ _ (Ne.symm nd.1.1) nd.2.1.1 nd.2.1.2.1 nd.2.1.2.2 hTI)
    · exact (sb.2 _ (Ne.symm nd.1.2.1)).trans hTO'
    · exact g1.1.at fun o q => (sb.2 _ (Ne.symm nd.1.2.2.1)).trans q
    · exact g2.1.at fun o q => (sb.2 _ (Ne.symm nd.1.2.2.2)).trans q
    · have hne : c ≠ s.heap.objs.size := by
        have q : c = z ∨ c = TI ∨ c = TO ∨ c = i1 ∨ c = i2 := by simpa using hcm
        rcases q with rfl | rfl | rfl | rfl | rfl
        · exact Nat.ne_of_lt hzl
        · exact Nat.ne_of_lt (Heap.lt_size hTI)
        · exact Nat.ne_of_lt (Heap.lt_size hTO)
        · obtain ⟨_, e1, _⟩ := h1
          exact Nat.ne_of_lt (Heap.lt_size e1)
        · obtain ⟨_, e2, _⟩ := h2
          exact Nat.ne_of_lt (Heap.lt_size e2)
      rw [upd_ne hne]
      exact (hf c hcm).1
  done := by
    intro X hP hw hK hc i pins s σ H E I hf st hg
    subst hP hw hK
    obtain ⟨hz, hTI, ⟨x0, y0, hTO⟩, h1, h2⟩ := st
    obtain ⟨xs, ys, hqx, hqy, q1, q2⟩ := hg
    obtain ⟨its, rv, p, _⟩ := I.tuple hqx
    obtain ⟨its2, rv2, p2, _⟩ := I.list hqy
    have l1 := rv.length
    have l2 := rv2.length
    obtain ⟨S, n1, n2⟩ := sep_of D I hf h1 h2 p p2 hz hTI hTO (src_ne I hqx (hf TO (by simp)))
    have D1 := Draws.tuple (prog := X.prog) (w := X.w) (A := X.A.in1) (I.ok.hd hc) i1 a n1 its.toArray
    have D2 := Draws.list (prog := X.prog) (w := X.w) (A := X.A.in1) (I.ok.hd hc) i2 b n2 its2.toArray
    exact wpAny_pyNext_zipD2_end S D1 D2 hz hTI hTO ⟨h1, show s.heap.IsTuple a its.toArray from p⟩ ⟨h2, p2.isList⟩ (by rw [List.size_toArray]; omega) (by rw [List.size_toArray]; omega) (.inl (by rw [List.size_toArray]; omega))
      fun h' tk hk => ⟨rfl, I.turnedL (t' := tk) (ch := [z, TI, TO, i1, i2]) (fun c o hb q => hk c o (fun q' => hb (by simp [q'])) (fun q' => hb (by simp [q'])) (fun q' => hb (by simp [q'])) (fun q' => hb (by simp [q'])) q) hf⟩
  self := fun A i s Q E st h => wpAny_pyIter_zip st.1 h
def iZipM (K : PySem.W.Frag) (ta : TA) : TI := fun σ H R => ta σ H fun vs H1 => ∃ a b xs ys, vs = [.ref a, .ref b] ∧ SqT K H1 a xs ∧ SqL K H1 b ys ∧ R (ItzM K a b) H1
theorem pi_zipM {X : Cx} {e e2 : Expr} {ta : TA} {p pos tpos : Pos} {elts : List Expr} {kk : Nat} (hg : Gl X "zip") (hm : X.mg "zip" = none) (ha : PA X [e, e2] ta)
    (hs : starEach [e, e2] X.env = (false, eval e X.env) :: starEach [e2] X.env := by rfl) (hpl : (backTo pos (starEach [e2] X.env)).any (·.1) = false := by rfl) :
    PI X (.Tuple elts kk tpos) (.Call (.Name "zip" p) [e, e2] [] pos) (iZipM X.K ta) := by
  refine ⟨fun pins s σ H R I h => ?_⟩
  refine Call_ (ld_blt I hg hm PyProof.Rows.boot_zip (PyProof.Rows.callWith_type1 (thn (ha.run pos pins s σ H _ I h) fun us s1 ⟨vs, H1, I1, r1, q1⟩ => ?_) hs hpl))
  obtain ⟨a, b, xs, ys, rfl, hqx, hqy, q⟩ := q1
  obtain ⟨w1, w2, rfl, e1, e2⟩ := vals2 r1
  cases e1
  cases e2
  obtain ⟨its, rv, p1, _⟩ := I1.tuple hqx
  obtain ⟨its2, rv2, p2, _⟩ := I1.list hqy
  refine zip_begins2 (begins_tuple a its.toArray) (begins_list b its2.toArray) p1 p2.isList fun h' hz hTI hTO h1 h2 hsz hk => wpAny_pyIter_zip hz ?_
  refine ⟨s1.heap.objs.size + 4, [s1.heap.objs.size + 4, s1.heap.objs.size + 2, s1.heap.objs.size + 3, s1.heap.objs.size, s1.heap.objs.size + 1], _, _, H1, rfl, I1.kept (t' := s1.toks) hk, turn_zipM (i1 := s1.heap.objs.size) (i2 := s1.heap.objs.size + 1) ?_, ⟨hz, hTI, ⟨_, _, hTO⟩, ⟨_, h1, rfl, rfl⟩, ⟨_, h2, rfl, rfl⟩⟩, fun c hcm => ?_, q⟩
  · generalize s1.heap.objs.size = n
    simp
  · have hle : s1.heap.objs.size ≤ c := by
      have q : c = s1.heap.objs.size + 4 ∨ c = s1.heap.objs.size + 2 ∨ c = s1.heap.objs.size + 3 ∨ c = s1.heap.objs.size ∨ c = s1.heap.objs.size + 1 := by simpa using hcm
      rcases q with rfl | rfl | rfl | rfl | rfl
      · exact Nat.le_add_right _ _
      · exact Nat.le_add_right _ _
      · exact Nat.le_add_right _ _
      · exact Nat.le_refl _
      · exact Nat.le_add_right _ _
    exact I1.fpOk hle (I1.hok.fresh hle)
theorem walk_zipM {K : PySem.W.Frag} {a b : Addr} {xs ys : List V} (hl : xs.length = ys.length) : Walk (ItzM K a b) xs.length (fun H => SqT K H a xs ∧ SqL K H b ys) (fun i H v H' => ∃ T x y, v = .ref T ∧ H T = none ∧ H' = upd H T (.tup [x, y]) ∧ xs[i]? = some x ∧ ys[i]? = some y) where
  goes := fun i H hi h => ⟨xs, ys, xs[i], ys[i]'(by omega), h.1, h.2, List.getElem?_eq_getElem hi, List.getElem?_eq_getElem (by omega)⟩
  stops := fun H h => ⟨xs, ys, h.1, h.2, rfl, hl.symm⟩
  yields := fun i H v H' hi h ⟨T, x, y, e1, e2, e3, f, g⟩ => ⟨T, x, y, e1, e2, e3, f xs h.1, g ys h.2⟩
end Ks
set_option maxRecDepth 100000
set_option maxHeartbeats 4000000
namespace Ks
open PySem PySem.Spec PyProof.Rows L2
/-! ### trees in lists -/
theorem Red.pos {t : Tr} (h : Red t) : 1 ≤ (btns t).length := List.length_pos_of_mem h.first.1
theorem reds_len : ∀ {qs : List Tr}, (∀ q ∈ qs, Red q) → qs.length ≤ (qs.flatMap btns).length
  | [], _ => Nat.le_refl _
  | q :: r, h => by
    have h1 := (h q (.head _)).pos
    have h2 := reds_len fun x hx => h x (.tail _ hx)
    rw [List.flatMap_cons, List.length_append, List.length_cons]
    omega
theorem part_len {p : Tr} : ∀ {ps : List Tr}, p ∈ ps → (btns p).length ≤ (ps.flatMap btns).length
  | q :: r, h => by
    rw [List.flatMap_cons, List.length_append]
    rcases List.mem_cons.mp h with rfl | h
    · omega
    · have := part_len h
      omega
theorem Nst.pos {t : Tr} (h : Nst t) : 1 ≤ (btns t).length := by
  induction h with
  | leaf b => rw [btns]; exact Nat.le_refl _
  | @node k ps h0 h1 h2 hp h3 ih =>
    rw [btns_node]
    cases ps with
    | nil => exact absurd rfl h0
    | cons p r => exact Nat.le_trans (ih p (.head _)) (part_len (.head _))
theorem nsts_len : ∀ {qs : List Tr}, (∀ q ∈ qs, Nst q) → qs.length ≤ (qs.flatMap btns).length
  | [], _ => Nat.le_refl _
  | q :: r, h => by
    have h1 := (h q (.head _)).pos
    have h2 := nsts_len fun x hx => h x (.tail _ hx)
    rw [List.flatMap_cons, List.length_append, List.length_cons]
    omega
theorem reds_btns (ps : List Tr) : ((ps.map red).flatMap btns).Perm (ps.flatMap btns) := by
  rw [List.flatMap_map]
  exact flatMap_perm_of fun x _ => red_btns x
theorem trsAt_pairs {H : Hp} : ∀ {ps : List Tr} {vs : List V}, TrsAt H ps vs → ∃ cs : List (V × Tr), vs = cs.map (·.1) ∧ ps = cs.map (·.2) ∧ ∀ c ∈ cs, TrAt H c.2 c.1
  | [], vs, h => ⟨[], trsAt_nil.mp h, rfl, fun c hc => nomatch hc⟩
  | p :: r, vs, h => by
    obtain ⟨v, u, rfl, h1, h2⟩ := trsAt_cons.mp h
    obtain ⟨cs, e1, e2, h3⟩ := trsAt_pairs h2
    refine ⟨(v, p) :: cs, by rw [List.map_cons, ← e1], by rw [List.map_cons, ← e2], fun c hc => ?_⟩
    rcases List.mem_cons.mp hc with rfl | hc
    · exact h1
    · exact h3 c hc
theorem trsAt_of {H : Hp} : ∀ {cs : List (V × Tr)}, (∀ c ∈ cs, TrAt H c.2 c.1) → TrsAt H (cs.map (·.2)) (cs.map (·.1))
  | [], _ => trsAt_nil.mpr rfl
  | c :: r, h => trsAt_cons.mpr ⟨c.1, r.map (·.1), rfl, h c (.head _), trsAt_of fun x hx => h x (.tail _ hx)⟩
/-- the values with their keys, and what their order is -/
theorem trsAt_keys {H : Hp} {ps : List Tr} {vs : List V} (h : TrsAt H ps vs) : ∃ bs : List (V × Int), vs = bs.map (·.1) ∧ (∀ b ∈ bs, ∃ t ∈ ps, TrAt H t b.1 ∧ b.2 = fst t) ∧ TrsAt H (srt ps) ((bs.mergeSort fun x y => decide (x.2 ≤ y.2)).map (·.1)) := by
  obtain ⟨cs, rfl, rfl, hc⟩ := trsAt_pairs h
  clear h
  have h := hc
  refine ⟨cs.map fun c => (c.1, fst c.2), by rw [List.map_map]; rfl, fun b hb => ?_, ?_⟩
  · obtain ⟨c, hc, rfl⟩ := List.mem_map.mp hb
    exact ⟨c.2, List.mem_map_of_mem hc, h c hc, rfl⟩
  · have e1 : (cs.map fun c => (c.1, fst c.2)).mergeSort (fun x y => decide (x.2 ≤ y.2)) = (cs.mergeSort fun x y => leF x.2 y.2).map fun c => (c.1, fst c.2) :=
      (List.map_mergeSort (r := fun x y : V × Tr => leF x.2 y.2) (s := fun x y : V × Int => decide (x.2 ≤ y.2)) (f := fun c => (c.1, fst c.2)) fun a _ b _ => rfl).symm
    have e2 : srt (cs.map (·.2)) = (cs.mergeSort fun x y => leF x.2 y.2).map (·.2) := (List.map_mergeSort (r := fun x y : V × Tr => leF x.2 y.2) (s := leF) (f := fun c : V × Tr => c.2) fun a _ b _ => rfl).symm
    rw [e1, e2, List.map_map]
    exact trsAt_of fun c hc => h c ((List.mergeSort_perm _ _).mem_iff.mp hc)
/-! ### shorter words -/
section
variable {X : Cx} {e : Expr} {te : TE} {p pos : Pos}
abbrev tLen (K : PySem.W.Frag) (te : TE) : TE := tCB (fun xs H Q => ∃ p ys, xs = [V.ref p] ∧ (SqL K H p ys ∨ SqT K H p ys) ∧ Q (.int (ys.length : Int)) H) (tCons te tNil)
theorem p_len (hm : X.mg "len" = none) (h : PE X e te) (hg : Gl X "len" := by rfl) (hs : starEach [e] X.env = (false, eval e X.env) :: starEach [] X.env := by rfl) (hpl : (backTo pos (starEach ([] : List Expr) X.env)).any (·.1) = false := by rfl) : PE X (.Call (.Name "len" p) [e] [] pos) (tLen X.K te) :=
  pe_callB call_len_seq hg hm PySem.boot_len (pa_cons h pa_nil hs) (by decide) (by decide) hs hpl
end
theorem TrAt.same {H H' : Hp} (e : Same H H') {t : Tr} {v : V} (h : TrAt H t v) : TrAt H' t v := h.mono (Same.tupK e)
theorem TrsAt.same {H H' : Hp} (e : Same H H') {ps : List Tr} {vs : List V} (h : TrsAt H ps vs) : TrsAt H' ps vs := h.mono (Same.tupK e)
/-! ### told_trip, told -/
theorem sc_told_trip : FnScope ["bound", "parts", "found", "part"] ["bound", "parts"] (defScope (tp 14)) := ⟨rfl, rfl, rfl, by decide +kernel, rfl, by decide +kernel, by decide +kernel⟩
theorem sc_told : FnScope ["tree", "part"] ["tree"] (defScope (tp 15)) := ⟨rfl, rfl, rfl, by decide +kernel, rfl, by decide +kernel, by decide +kernel⟩
def sp_told_trip : Sp := fun vs H Q _ => ∃ (k : Int) (l : Addr) (us : List V) (qs : List Tr), vs = [.int k, .ref l] ∧ H l = some (.lst us) ∧ TrsAt H qs us ∧ qs ≠ [] ∧ (∀ q ∈ qs, Red q) ∧ (qs.flatMap btns).length ≤ 64 ∧
  ∀ v H2, Same H H2 → TrAt H2 (mk k qs) v → Q v H2
def sp_told (n : Nat) : Sp := fun vs H Q _ => ∃ (v : V) (t : Tr), vs = [v] ∧ TrAt H t v ∧ Nst t ∧ (btns t).length ≤ 64 ∧ dep t < n ∧ ∀ v' H2, Same H H2 → TrAt H2 (red t) v' → Q v' H2
theorem ev_int (x y : Int) : decide (V.int x = V.int y) = decide (x = y) := by
  by_cases e : x = y
  · simp [e]
  · simp [e]
section
variable {P : Program} {w : World} {K : PySem.W.Frag} {mg : Str → Option Value} {base : Heap}
theorem ok_told_trip (B : Bi mg) (D : Df K mg "told_trip" (tp 14) ["bound", "parts"]) (cL : Cal P w K mg base 2 "is_like_trip" sp_is_like) (cB : Cal P w K mg base 2 "least_button" sp_least_button) : Cal P w K mg base 5 "told_trip" sp_told_trip := by
  refine D.cal sc_told_trip (fun vs H Q E h => ?_) (fun f cdv A outer s H vs Q E hr h => ?_)
  · obtain ⟨k, l, us, qs, rfl, _⟩ := h
    rfl
  have nd := sc_told_trip.nd
  obtain ⟨k, l, us, qs, rfl, hl, ht, hne, hR, hb, q⟩ := h
  obtain ⟨g, fd, ps, F, hm, kp, bd⟩ := cB.ex
  refine ⟨_, pss_cons (ps_if (pt_cmpR op_eq (p_len B.len (pv 1)) pe_int (nomark _)) (pss_one (ps_ret (pe_ix ix_list (pv 1) pe_int (fun _ _ => rfl)))) pss_nil)
    (pss_cons (ps_set (i := 2) nd rfl (.inl rfl) (pe_lst pa_nil))
    (pss_cons (ps_for PassesOwn.never rfl (pi_list (pv 1)) (pg_name (i := 3) nd rfl (.inl rfl))
      (pss_one (ps_if (pt_val (pc cL hr (by decide) (pa_cons (pv 3) (pa_cons (pv 0) (pa_cons (p_len B.len (pv 1)) pa_nil)))))
        (pss_one (ps_expr (pe_bm PySem.F.plainAttrs_list PySem.F.slot_list_extend PySem.F.type_list_extend mt_extT (pv 2) (pa_cons (pe_ix ix_tup (pv 3) pe_int (fun _ _ => rfl)) pa_nil))))
        (pss_one (ps_expr (pe_bm PySem.F.plainAttrs_list PySem.F.slot_list_append PySem.F.type_list_append mt_append (pv 2) (pa_cons (pv 3) pa_nil)))))))
    (pss_one (ps_ret (pe_tup (pa_cons
      (pe_ifExp (pt_cmpR op_eq (pv 0) (p_len B.len (pv 1)) (nomark _)) (p_len B.len (pv 2)) (pv 0))
      (pa_cons (pe_callTy call_tuple_of (by rfl) B.tuple (by decide +kernel) (pa_cons
        (pe_callBK (cr_srtF F hr bd) (by rfl) B.sorted (by decide +kernel) (pa_cons (pv 2) pa_nil) (pk_cons (pe_glob (v := .ref g) (by rfl) hm rfl) pk_nil)) pa_nil)) pa_nil))))))), ?_⟩
  have hul := ht.len
  have hqn := reds_len hR
  refine ⟨.ref l, rfl, l, us, rfl, .inl (sqL hl), rfl, _, rfl, ?_⟩
  rw [ev_int]
  by_cases e1 : qs.length = 1
  · rw [decide_eq_true (by omega)]
    refine iteT ?_
    match qs, e1 with
    | [t], _ =>
      obtain ⟨v, u, rfl, h1, h2⟩ := trsAt_cons.mp ht
      refine ⟨.ref l, rfl, l, _, 0, v, rfl, rfl, sqL hl, atI_nat (j := 0) rfl, ?_⟩
      exact q v H (Same.refl H) (by rw [mk_one]; exact h1)
  rw [decide_eq_false (by omega)]
  refine iteF ⟨by decide, fun F hF => ?_⟩
  have hFl : F ≠ l := Ne.symm (ne_of_none hl hF)
  refine ⟨.ref l, rfl, l, rfl, ⟨us, sqL (by rw [upd_ne (Ne.symm hFl)]; exact hl)⟩, ?_⟩
  let Pv : Nat → L2.St → Hp → Prop := fun i σ H' => ∃ ys o, σ = [some (.int k), some (.ref l), some (.ref F), o] ∧ H' F = some (.lst ys) ∧ Same H H' ∧ TrsAt H' (flat k qs.length (qs.take i)) ys
  refine for_list (xs := us) Pv ⟨[], _, rfl, upd_same, same_new hF _, by rw [List.take_zero]; exact trsAt_nil.mpr rfl⟩ (fun i σ H' _ hp => ?_) (fun i x σ H' hx hp => ?_) (fun σ H' hp => ?_)
  · obtain ⟨ys, o, rfl, h1, h2, h3⟩ := hp
    exact sqL (h2 l _ hl)
  · obtain ⟨ys, o, rfl, h1, h2, h3⟩ := hp
    have hi : i < qs.length := by
      have := (List.getElem?_eq_some_iff.mp hx).1
      omega
    obtain ⟨x', e, hxt⟩ := ht.get (i := i) (List.getElem?_eq_getElem hi)
    rw [hx] at e
    cases e
    have hxt := hxt.same h2
    have hlen : ys.length + (btns qs[i]).length ≤ 64 := by
      have a1 := h3.len
      have a2 := reds_len (flat_red (k := k) (n := qs.length) (qs := qs.take i) fun q hq => hR q (List.mem_of_mem_take hq))
      rw [flat_btns] at a2
      have a3 : ((qs.take (i + 1)).flatMap btns).length ≤ (qs.flatMap btns).length := by
        conv => rhs; rw [← List.take_append_drop (i + 1) qs, List.flatMap_append, List.length_append]
        omega
      rw [List.take_succ_eq_append_getElem hi, List.flatMap_append, List.length_append, List.flatMap_cons, List.flatMap_nil, List.append_nil] at a3
      omega
    have hfl : flat k qs.length (qs.take (i + 1)) = flat k qs.length (qs.take i) ++ part1 k qs.length qs[i] := by
      rw [List.take_succ_eq_append_getElem hi, flat, List.flatMap_append, List.flatMap_cons, List.flatMap_nil, List.append_nil]
      rfl
    have hRi := hR qs[i] (List.getElem_mem hi)
    refine ⟨x, rfl, .int k, rfl, .ref l, rfl, l, us, rfl, .inl (sqL (h2 l _ hl)), x, qs[i], k, qs.length, by rw [hul]; rfl, hxt, _, rfl, ?_⟩
    cases hlk : like k qs.length qs[i] with
    | true =>
      refine iteT ?_
      generalize qs[i] = t at *
      cases t with
      | leaf b => cases hlk
      | node k' ps =>
        obtain ⟨a, c, vs, rfl, g1, g2, g3⟩ := trAt_node.mp hxt
        have hps := reds_len hRi.parts
        rw [← btns_node k'] at hps
        have hv := g3.len
        refine ⟨.ref F, rfl, .inl ⟨rfl, _, sqL h1⟩, .ref a, rfl, a, _, 1, .ref c, rfl, rfl, sqT g1, atI_nat (j := 1) rfl, F, c, ys, vs, rfl, rfl, h1, sqT g2, by rw [hv]; exact Nat.le_trans (show _ ≤ 64 by omega) (by decide), ?_⟩
        refine ⟨ys ++ vs, _, rfl, upd_same, Same.upd' h2 hF, ?_⟩
        rw [hfl, part1_like hlk]
        exact TrsAt.mono (tupK_lst h1) (h3.app g3)
    | false =>
      refine iteF ?_
      have := hRi.pos
      refine ⟨.ref F, rfl, .inl ⟨rfl, _, sqL h1⟩, x, rfl, F, ys, x, rfl, rfl, h1, Nat.lt_of_le_of_lt (show _ ≤ 64 by omega) (by decide), ?_⟩
      refine ⟨ys ++ [x], _, rfl, upd_same, Same.upd' h2 hF, ?_⟩
      rw [hfl, part1_not hlk]
      exact TrsAt.mono (tupK_lst h1) (h3.app (TrsAt.one hxt))
  · obtain ⟨ys, o, rfl, h1, h2, h3⟩ := hp
    rw [hul, List.take_length] at h3
    have hyl := h3.len
    obtain ⟨bs, hbs, hk, hsrt⟩ := trsAt_keys h3
    have hmk := mk_more k e1
    have fin : ∀ m : Int, m = (if k = (qs.length : Int) then ((flat k qs.length qs).length : Int) else k) → (tCons (tCB (fun xs H Q => ∃ p ys, xs = [V.ref p] ∧ ((SqL K H p ys ∧ ∀ l, H l = none → Q (.ref l) (upd H l (.tup ys))) ∨ (SqT K H p ys ∧ Q (.ref p) H))) (tCons (fun σ H Q => tCons (tVar 2) tNil σ H fun vs H1 => tCons (tC (.ref g)) tNil σ H1 fun zs H2 => rSrtF K g sp_least_button vs zs H2 Q) tNil)) tNil) [some (.int k), some (.ref l), some (.ref F), o] H' (fun xs H1 => ((V.int m) :: xs).length ≤ sizeLine ∧ ∀ p, H1 p = none → Q (.ref p) (upd H1 p (.tup (V.int m :: xs)))) := fun m hm => by
      refine ⟨.ref F, rfl, F, bs, fun H2 => H2 = H', rfl, rfl, sqL (by rw [← hbs]; exact h1), rfl, ?_, ?_⟩
      · rintro H2 rfl b hb
        obtain ⟨t, ht, e1, e2⟩ := hk b hb
        exact ⟨b.1, t, rfl, e1, flat_red hR t ht, by rw [e2], rfl⟩
      · rintro H2 p rfl hp
        refine ⟨p, _, rfl, .inl ⟨sqL upd_same, fun T hT => ⟨(by show 2 ≤ sizeLine; decide), fun R hR => ?_⟩⟩⟩
        have s1 := same_new hp (.lst ((bs.mergeSort fun x y => decide (x.2 ≤ y.2)).map (·.1)))
        have s2 := same_new hT (.tup ((bs.mergeSort fun x y => decide (x.2 ≤ y.2)).map (·.1)))
        have s3 := same_new hR (.tup [.int m, .ref T])
        refine q (.ref R) _ (h2.trans (s1.trans (s2.trans s3))) ?_
        rw [hmk, ← hm]
        refine trAt_node.mpr ⟨R, T, _, rfl, upd_same, ?_, ((hsrt.same s1).same s2).same s3⟩
        exact s3 T _ upd_same
    refine ⟨.int k, rfl, .ref l, rfl, l, us, rfl, .inl (sqL (h2 l _ hl)), rfl, _, rfl, ?_⟩
    rw [ev_int]
    by_cases ek : k = (qs.length : Int)
    · rw [decide_eq_true (by omega)]
      refine iteT ⟨.ref F, rfl, F, ys, rfl, .inl (sqL h1), ?_⟩
      exact fin _ (by rw [if_pos ek, hyl])
    · rw [decide_eq_false (by omega)]
      refine iteF ⟨.int k, rfl, ?_⟩
      exact fin _ (by rw [if_neg ek])
theorem told_step {n j : Nat} (D : Df K mg "told" (tp 15) ["tree"]) (cI : Cal P w K mg base 1 "is_trip" sp_is_trip) (cT : Cal P w K mg base 5 "told_trip" sp_told_trip) (cR : Cal P w K mg base j "told" (sp_told n)) (hj : 5 ≤ j) : Cal P w K mg base (j + 1) "told" (sp_told (n + 1)) := by
  refine D.cal sc_told (fun vs H Q E h => ?_) (fun f cdv A outer s H vs Q E hr h => ?_)
  · obtain ⟨v, t, rfl, _⟩ := h
    rfl
  have nd := sc_told.nd
  obtain ⟨v, t, rfl, ht, hN, hb, hd, q⟩ := h
  refine ⟨_, pss_one (ps_ret (pe_ifExp (pt_val (pc cI hr (by omega) (pa_cons (pv 0) pa_nil)))
    (pc cT hr hj (pa_cons (pe_ix ix_tup (pv 0) pe_int (fun _ _ => rfl)) (pa_cons
      (pe_lc (own := [("part", 1)]) (g := gName 1) (tt := tYes) rfl nd (pi_tup (pe_ix ix_tup (pv 0) pe_int (fun _ _ => rfl))) (blkOk_by (N := ["tree", "part"]) (sc := defScope (tp 15)) (by decide +kernel))
        (fun _ _ _ _ _ => pg_name (i := 1) nd rfl (Or.inl rfl)) (fun _ _ _ _ _ => pts_nil) (fun _ _ _ _ _ => pc cR hr (Nat.le_refl _) (pa_cons (pv 1) pa_nil))) pa_nil)))
    (pv 0))), ?_⟩
  refine ⟨v, rfl, v, t, rfl, ht, _, rfl, ?_⟩
  cases t with
  | leaf b =>
    refine iteF ⟨v, rfl, q v H (Same.refl H) ?_⟩
    rw [red_leaf]
    exact ht
  | node k ps =>
    obtain ⟨a, c, us, rfl, h1, h2, h3⟩ := trAt_node.mp ht
    have hul := h3.len
    cases hN with
    | node n0 n1 n2 np n3 =>
    refine iteT ⟨.ref a, rfl, a, _, 0, .int k, rfl, rfl, sqT h1, atI_nat (j := 0) rfl, .ref a, rfl, a, _, 1, .ref c, rfl, rfl, sqT h1, atI_nat (j := 1) rfl, c, rfl, ⟨us, sqT h2⟩, fun F hF => ?_⟩
    refine lc_tup (xs := us) (fun i H' => ∃ ys, H' F = some (.lst ys) ∧ Same H H' ∧ TrsAt H' ((ps.take i).map red) ys) ⟨[], upd_same, same_new hF _, trsAt_nil.mpr rfl⟩ (fun i H' _ hp => ?_) (fun i x H' hx hp => ?_) (fun H' hp => ?_)
    · obtain ⟨ys, g1, g2, g3⟩ := hp
      exact sqT (g2 _ _ h2)
    · obtain ⟨ys, g1, g2, g3⟩ := hp
      have hi : i < ps.length := by
        have := (List.getElem?_eq_some_iff.mp hx).1
        omega
      obtain ⟨x', e, hxt⟩ := h3.get (i := i) (List.getElem?_eq_getElem hi)
      rw [hx] at e
      cases e
      have hm : ps[i] ∈ ps := List.getElem_mem hi
      have hbl : (btns ps[i]).length ≤ 64 := by
        rw [btns_node] at hb
        have := part_len hm
        omega
      have hdl : dep ps[i] < n := by
        have := dep_mem hm
        rw [dep_node] at hd
        omega
      refine ⟨rfl, x, rfl, x, ps[i], rfl, hxt.same g2, np _ hm, hbl, hdl, fun v' H2 e2 ht2 => ?_⟩
      have hyl := g3.len
      have hpl : ps.length ≤ 64 := by
        have := nsts_len np
        rw [btns_node] at hb
        omega
      refine ⟨ys, e2 F _ g1, ?_, ys ++ [v'], upd_same, Same.upd' (g2.trans e2) hF, ?_⟩
      · rw [hyl, List.length_map, List.length_take]
        exact Nat.lt_of_le_of_lt (show _ ≤ 64 by omega) (by decide)
      · rw [List.take_succ_eq_append_getElem hi, List.map_append]
        exact TrsAt.mono (tupK_lst (e2 F _ g1)) ((g3.same e2).app (TrsAt.one ht2))
    · obtain ⟨ys, g1, g2, g3⟩ := hp
      rw [hul, List.take_length] at g3
      refine ⟨k, F, ys, ps.map red, rfl, g1, g3, by simpa using n0, fun p hp => ?_, ?_, fun v' H2 e2 ht2 => ?_⟩
      · obtain ⟨p', hp', rfl⟩ := List.mem_map.mp hp
        exact red_Red (np p' hp')
      · rw [(reds_btns ps).length_eq, ← btns_node k]
        exact hb
      · refine q v' H2 (g2.trans e2) ?_
        rw [red_node]
        exact ht2
theorem ok_told (D : Df K mg "told" (tp 15) ["tree"]) (cI : Cal P w K mg base 1 "is_trip" sp_is_trip) (cT : Cal P w K mg base 5 "told_trip" sp_told_trip) : ∀ n, Cal P w K mg base (n + 6) "told" (sp_told n)
  | 0 => D.never fun vs H Q E h => by
    obtain ⟨v, t, _, _, _, _, hd, _⟩ := h
    exact absurd hd (Nat.not_lt_zero _)
  | n + 1 => told_step D cI cT (ok_told D cI cT n) (by omega)
end
end Ks
set_option maxRecDepth 100000
set_option maxHeartbeats 4000000
namespace Ks
open PySem PySem.Spec PyProof.Rows L2
/-! ### trees as data -/
mutual
def treeD : Tr → PyData
  | .leaf b => .int b
  | .node k ps => .tuple [.int k, .tuple (treesD ps)]
def treesD : List Tr → List PyData
  | [] => []
  | p :: r => treeD p :: treesD r
end
theorem treesD_eq : ∀ ps : List Tr, treesD ps = ps.map treeD
  | [] => by rw [treesD, List.map_nil]
  | p :: r => by rw [treesD, List.map_cons, treesD_eq r]
theorem dpT {K : PySem.W.Frag} {H : Hp} : ∀ {t : Tr} {v : V}, TrAt H t v → Dp K H v (treeD t) := fun {t} => by
  refine Tr.ind (P := fun t => ∀ {v : V}, TrAt H t v → Dp K H v (treeD t)) (fun b v h => ?_) (fun k ps ih v h => ?_) t
  · rw [trAt_leaf.mp h, treeD]
    exact .int b
  · obtain ⟨a, q, vs, rfl, h1, h2, h3⟩ := trAt_node.mp h
    rw [treeD]
    refine .tup (sqT h1) (.cons (.int k) (.cons (.tup (sqT h2) ?_) .nil))
    clear h h2
    induction ps generalizing vs with
    | nil => rw [trsAt_nil.mp h3, treesD]; exact .nil
    | cons p r ihr =>
      obtain ⟨v, u, rfl, h4, h5⟩ := trsAt_cons.mp h3
      rw [treesD]
      exact .cons (ih p (.head _) h4) (ihr (fun x hx => ih x (.tail _ hx)) u h5)
theorem dpTs {K : PySem.W.Frag} {H : Hp} : ∀ {ps : List Tr} {vs : List V}, TrsAt H ps vs → DpAll K H vs (treesD ps)
  | [], vs, h => by rw [trsAt_nil.mp h, treesD]; exact .nil
  | p :: r, vs, h => by
    obtain ⟨v, u, rfl, h1, h2⟩ := trsAt_cons.mp h
    rw [treesD]
    exact .cons (dpT h1) (dpTs h2)
theorem lay_t : ∀ t : Tr, (treeD t).canLay0 = true := fun t => by
  refine Tr.ind (P := fun t => (treeD t).canLay0 = true) (fun b => by rw [treeD]; rfl) (fun k ps ih => ?_) t
  rw [treeD]
  have : PyData.canLayAll0 (treesD ps) = true := by
    induction ps with
    | nil => rw [treesD]; rfl
    | cons p r ihr =>
      rw [treesD, PyData.canLayAll0, ih p (.head _), ihr fun x hx => ih x (.tail _ hx)]
      rfl
  simp only [PyData.canLay0, PyData.canLayAll0, this, Bool.and_self]
theorem lay_ts : ∀ ps : List Tr, PyData.canLayAll0 (treesD ps) = true
  | [] => by rw [treesD]; rfl
  | p :: r => by
    rw [treesD, PyData.canLayAll0, lay_t p, lay_ts r]
    rfl
theorem depthAll_le {n : Nat} : ∀ {ds : List PyData}, (∀ d ∈ ds, d.depth ≤ n) → PyData.depthAll ds ≤ n
  | [], _ => by rw [PyData.depthAll]; exact Nat.zero_le _
  | d :: r, h => by
    rw [PyData.depthAll]
    exact Nat.max_le.mpr ⟨h d (.head _), depthAll_le fun x hx => h x (.tail _ hx)⟩
theorem depth_t : ∀ t : Tr, (treeD t).depth ≤ 2 * dep t := fun t => by
  refine Tr.ind (P := fun t => (treeD t).depth ≤ 2 * dep t) (fun b => by rw [treeD, PyData.depth]; exact Nat.zero_le _) (fun k ps ih => ?_) t
  rw [treeD, dep_node]
  have : PyData.depthAll (treesD ps) ≤ 2 * depL ps := depthAll_le fun d hd => by
    rw [treesD_eq] at hd
    obtain ⟨p, hp, rfl⟩ := List.mem_map.mp hd
    have := ih p hp
    have := dep_mem hp
    omega
  simp only [PyData.depth, PyData.depthAll]
  omega
theorem shaped_ts {ps : List Tr} {n : Nat} (h : ∀ p ∈ ps, dep p ≤ n) (hn : n ≤ 31) : SeqAt.shaped (.list (treesD ps)) = true := by
  have h1 := lay_ts ps
  have h2 : PyData.depthAll (treesD ps) ≤ 2 * n := depthAll_le fun d hd => by
    rw [treesD_eq] at hd
    obtain ⟨p, hp, rfl⟩ := List.mem_map.mp hd
    have := depth_t p
    have := h p hp
    omega
  unfold SeqAt.shaped
  rw [PyData.canLay0, h1, PyData.depth, Bool.true_and]
  exact decide_eq_true (by omega)
theorem dp_len {K : PySem.W.Frag} {H : Hp} : ∀ {xs : List V} {ds : List PyData}, DpAll K H xs ds → ds.length = xs.length
  | [], ds, h => by
    cases h
    rfl
  | x :: r, ds, h => by
    cases h with
    | cons _ h => rw [List.length_cons, List.length_cons, dp_len h]
theorem dp_ints {K : PySem.W.Frag} {H : Hp} : ∀ ns : List Int, DpAll K H (ns.map V.int) (ns.map PyData.int)
  | [] => .nil
  | n :: r => .cons (.int n) (dp_ints r)
theorem lay_ints : ∀ ns : List Int, PyData.canLayAll0 (ns.map PyData.int) = true
  | [] => rfl
  | n :: r => by
    rw [List.map_cons, PyData.canLayAll0, lay_ints r]
    rfl
theorem shaped_ints (ns : List Int) : SeqAt.shaped (.list (ns.map PyData.int)) = true := by
  have h2 : PyData.depthAll (ns.map PyData.int) ≤ 0 := depthAll_le fun d hd => by
    obtain ⟨n, hn, rfl⟩ := List.mem_map.mp hd
    rw [PyData.depth]
    exact Nat.le_refl _
  unfold SeqAt.shaped
  rw [PyData.canLay0, lay_ints, PyData.depth, Bool.true_and]
  exact decide_eq_true (by omega)
/-! ### xs == [], xs != [] -/
theorem eqv_nil (ds : List PyData) : PyData.eqv (.list ds) (.list []) = ds.isEmpty := by
  cases ds with
  | nil => simp [PyData.eqv, PyData.eqvAll]
  | cons d r => simp [PyData.eqv, PyData.eqvAll]
theorem isE {α β : Type} {a : List α} {b : List β} (h : a.length = b.length) : a.isEmpty = b.isEmpty := by
  cases a <;> cases b <;> simp at h ⊢
theorem rd_ne {K : PySem.W.Frag} {H : Hp} {σ : L2.St} {a : Addr} {xs : List V} {ds : List PyData} {Q : VK} (h : H a = some (.lst xs)) (hd : ∀ H', Same H H' → DpAll K H' xs ds) (sh : SeqAt.shaped (.list ds) = true) (q : ∀ p, H p = none → Q (.bl !xs.isEmpty) (upd H p (.lst []))) :
    tLst tNil σ H fun y H2 => rNeD K (.ref a) y H2 Q := by
  refine ⟨by decide, fun p hp => ⟨.list ds, .list [], .lst (sqL (same_new hp _ a _ h)) (hd _ (same_new hp _)), .lst (sqL upd_same) .nil, sh, by decide, ?_⟩⟩
  rw [eqv_nil, isE (dp_len (hd H (Same.refl H)))]
  exact q p hp
theorem rd_eq {K : PySem.W.Frag} {H : Hp} {σ : L2.St} {a : Addr} {xs : List V} {ds : List PyData} {Q : VK} (h : H a = some (.lst xs)) (hd : ∀ H', Same H H' → DpAll K H' xs ds) (sh : SeqAt.shaped (.list ds) = true) (q : ∀ p, H p = none → Q (.bl xs.isEmpty) (upd H p (.lst []))) :
    tLst tNil σ H fun y H2 => rEqD K (.ref a) y H2 Q := by
  refine ⟨by decide, fun p hp => ⟨.list ds, .list [], .lst (sqL (same_new hp _ a _ h)) (hd _ (same_new hp _)), .lst (sqL upd_same) .nil, sh, by decide, ?_⟩⟩
  rw [eqv_nil, isE (dp_len (hd H (Same.refl H)))]
  exact q p hp
end Ks
set_option maxRecDepth 100000
set_option maxHeartbeats 4000000
namespace Ks
open PySem PySem.Spec PyProof.Rows L2
/-! ### own_buttons, own_trips, fork_from -/
theorem sc_own_buttons : FnScope ["tree", "part"] ["tree"] (defScope (tp 17)) := ⟨rfl, rfl, rfl, by decide +kernel, rfl, by decide +kernel, by decide +kernel⟩
theorem sc_own_trips : FnScope ["tree", "part"] ["tree"] (defScope (tp 18)) := ⟨rfl, rfl, rfl, by decide +kernel, rfl, by decide +kernel, by decide +kernel⟩
theorem sc_fork_from : FnScope ["tree", "way", "place", "part", "found"] ["tree", "way"] (defScope (tp 19)) := ⟨rfl, rfl, rfl, by decide +kernel, rfl, by decide +kernel, by decide +kernel⟩
def trips : Tr → List Tr
  | .leaf _ => []
  | .node _ ps => ownT ps
def sp_own_buttons : Sp := fun vs H Q _ => ∃ (v : V) (k : Int) (ps : List Tr), vs = [v] ∧ TrAt H (.node k ps) v ∧ ps.length ≤ 64 ∧ ∀ p, H p = none → Q (.ref p) (upd H p (.lst ((ownB ps).map V.int)))
def sp_own_trips : Sp := fun vs H Q _ => ∃ (v : V) (t : Tr), vs = [v] ∧ TrAt H t v ∧ (trips t).length ≤ 64 ∧ ∀ p us, H p = none → TrsAt H (trips t) us → Q (.ref p) (upd H p (.lst us))
def sp_fork (n : Nat) : Sp := fun vs H Q _ => ∃ (v : V) (t : Tr) (wy : Addr) (zs : List V), vs = [v, .ref wy] ∧ TrAt H t v ∧ Red t ∧ H wy = some (.tup zs) ∧ zs.length + n ≤ 100 ∧ dep t < n ∧ ∀ H2, Same H H2 → Q .non H2
theorem ownB_take {ps : List Tr} {i : Nat} (h : i < ps.length) : ownB (ps.take (i + 1)) = ownB (ps.take i) ++ ownB [ps[i]] := by rw [List.take_succ_eq_append_getElem h, ownB_append]
theorem ownT_take {ps : List Tr} {i : Nat} (h : i < ps.length) : ownT (ps.take (i + 1)) = ownT (ps.take i) ++ ownT [ps[i]] := by rw [List.take_succ_eq_append_getElem h, ownT_append]
theorem ownB_len (ps : List Tr) : (ownB ps).length ≤ ps.length := by have := own_len ps; omega
theorem ownT_len (ps : List Tr) : (ownT ps).length ≤ ps.length := by have := own_len ps; omega
theorem lt_size {n : Nat} (h : n < 10000) : n < sizeLine := Nat.lt_trans h (by decide)
theorem le_size {n : Nat} (h : n ≤ 10000) : n ≤ sizeLine := Nat.le_trans h (by decide)
section
variable {P : Program} {w : World} {K : PySem.W.Frag} {mg : Str → Option Value} {base : Heap}
theorem ok_own_buttons (D : Df K mg "own_buttons" (tp 17) ["tree"]) (cI : Cal P w K mg base 1 "is_trip" sp_is_trip) : Cal P w K mg base 2 "own_buttons" sp_own_buttons := by
  refine D.cal sc_own_buttons (fun vs H Q E h => ?_) (fun f cdv A outer s H vs Q E hr h => ?_)
  · obtain ⟨v, k, ps, rfl, _⟩ := h
    rfl
  have nd := sc_own_buttons.nd
  obtain ⟨v, k, ps, rfl, ht, hl, q⟩ := h
  refine ⟨_, pss_one (ps_ret (pe_lc (own := [("part", 1)]) (g := gName 1) rfl nd (pi_tup (pe_ix ix_tup (pv 0) pe_int (fun _ _ => rfl))) (blkOk_by (N := ["tree", "part"]) (sc := defScope (tp 17)) (by decide +kernel))
        (fun _ _ _ _ _ => pg_name (i := 1) nd rfl (Or.inl rfl)) (fun _ _ _ _ _ => pts_one (pt_not (pt_val (pc cI hr (by decide) (pa_cons (pv 1) pa_nil))))) (fun _ _ _ _ _ => pv 1))), ?_⟩
  obtain ⟨a, c, us, rfl, h1, h2, h3⟩ := trAt_node.mp ht
  have hul := h3.len
  refine ⟨.ref a, rfl, a, _, 1, .ref c, rfl, rfl, sqT h1, atI_nat (j := 1) rfl, c, rfl, ⟨us, sqT h2⟩, fun D hD => ?_⟩
  refine lc_tup (xs := us) (fun i H' => H' = upd H D (.lst ((ownB (ps.take i)).map V.int))) rfl (fun i H' _ hp => ?_) (fun i x H' hx hp => ?_) (fun H' hp => ?_)
  · subst hp
    exact sqT (same_new hD _ _ _ h2)
  · subst hp
    have hi : i < ps.length := by
      have := (List.getElem?_eq_some_iff.mp hx).1
      omega
    obtain ⟨x', e, hxt⟩ := h3.get (i := i) (List.getElem?_eq_getElem hi)
    rw [hx] at e
    cases e
    refine ⟨rfl, x, rfl, x, ps[i], rfl, hxt.same (same_new hD _), _, rfl, ?_⟩
    rw [ownB_take hi]
    have hb := ownB_len (ps.take i)
    rw [List.length_take] at hb
    generalize ps[i] = t at *
    cases t with
    | leaf b =>
      refine iteT ⟨x, rfl, _, upd_same, lt_size (by rw [List.length_map]; omega), ?_⟩
      rw [trAt_leaf.mp hxt, upd_upd, List.map_append]
      rfl
    | node k' qs =>
      refine iteF ?_
      show _ = upd H D (.lst ((ownB (ps.take i) ++ []).map V.int))
      rw [List.append_nil]
  · subst hp
    rw [hul, List.take_length]
    exact q D hD
theorem ok_own_trips (D : Df K mg "own_trips" (tp 18) ["tree"]) (cI : Cal P w K mg base 1 "is_trip" sp_is_trip) : Cal P w K mg base 2 "own_trips" sp_own_trips := by
  refine D.cal sc_own_trips (fun vs H Q E h => ?_) (fun f cdv A outer s H vs Q E hr h => ?_)
  · obtain ⟨v, t, rfl, _⟩ := h
    rfl
  have nd := sc_own_trips.nd
  obtain ⟨v, t, rfl, ht, hl, q⟩ := h
  refine ⟨_, pss_one (ps_ret (pe_ifExp (pt_val (pc cI hr (by decide) (pa_cons (pv 0) pa_nil))) (pe_lc (own := [("part", 1)]) (g := gName 1) rfl nd (pi_tup (pe_ix ix_tup (pv 0) pe_int (fun _ _ => rfl))) (blkOk_by (N := ["tree", "part"]) (sc := defScope (tp 18)) (by decide +kernel))
        (fun _ _ _ _ _ => pg_name (i := 1) nd rfl (Or.inl rfl)) (fun _ _ _ _ _ => pts_one (pt_val (pc cI hr (by decide) (pa_cons (pv 1) pa_nil)))) (fun _ _ _ _ _ => pv 1)) (pe_lst pa_nil))), ?_⟩
  refine ⟨v, rfl, v, t, rfl, ht, _, rfl, ?_⟩
  cases t with
  | leaf b => exact iteF ⟨by decide, fun p hp => q p [] hp (trsAt_nil.mpr rfl)⟩
  | node k ps =>
    obtain ⟨a, c, us, rfl, h1, h2, h3⟩ := trAt_node.mp ht
    have hul := h3.len
    refine iteT ⟨.ref a, rfl, a, _, 1, .ref c, rfl, rfl, sqT h1, atI_nat (j := 1) rfl, c, rfl, ⟨us, sqT h2⟩, fun D hD => ?_⟩
    refine lc_tup (xs := us) (fun i H' => ∃ ys, H' = upd H D (.lst ys) ∧ TrsAt H (ownT (ps.take i)) ys) ⟨[], rfl, trsAt_nil.mpr rfl⟩ (fun i H' _ hp => ?_) (fun i x H' hx hp => ?_) (fun H' hp => ?_)
    · obtain ⟨ys, rfl, hy⟩ := hp
      exact sqT (same_new hD _ _ _ h2)
    · obtain ⟨ys, rfl, hy⟩ := hp
      have hi : i < ps.length := by
        have := (List.getElem?_eq_some_iff.mp hx).1
        omega
      obtain ⟨x', e, hxt⟩ := h3.get (i := i) (List.getElem?_eq_getElem hi)
      rw [hx] at e
      cases e
      refine ⟨rfl, x, rfl, x, ps[i], rfl, hxt.same (same_new hD _), _, rfl, ?_⟩
      have hyl := hy.len
      have hb : (ownT (ps.take i)).length + (ownT [ps[i]]).length ≤ (trips (.node k ps)).length := by
        have e := congrArg List.length (ownT_append (ps.take (i + 1)) (ps.drop (i + 1)))
        rw [List.take_append_drop, ownT_take hi, List.length_append, List.length_append] at e
        show _ ≤ (ownT ps).length
        omega
      rw [ownT_take hi]
      generalize ps[i] = t at *
      cases t with
      | leaf b =>
        refine iteF ⟨ys, rfl, ?_⟩
        show TrsAt H (ownT (ps.take i) ++ []) ys
        rw [List.append_nil]
        exact hy
      | node k' qs =>
        refine iteT ⟨x, rfl, _, upd_same, lt_size (by omega), ?_⟩
        exact ⟨ys ++ [x], by rw [upd_upd], hy.app (TrsAt.one hxt)⟩
    · obtain ⟨ys, rfl, hy⟩ := hp
      rw [hul, List.take_length] at hy
      exact q D ys hD hy
theorem fork_step {n j : Nat} (B : Bi mg) (D : Df K mg "fork_from" (tp 19) ["tree", "way"]) (cI : Cal P w K mg base 1 "is_trip" sp_is_trip) (cT : Cal P w K mg base 2 "own_trips" sp_own_trips) (cR : Cal P w K mg base j "fork_from" (sp_fork n)) (hj : 2 ≤ j) : Cal P w K mg base (j + 1) "fork_from" (sp_fork (n + 1)) := by
  refine D.cal sc_fork_from (fun vs H Q E h => ?_) (fun f cdv A outer s H vs Q E hr h => ?_)
  · obtain ⟨v, t, wy, zs, rfl, _⟩ := h
    rfl
  have nd := sc_fork_from.nd
  obtain ⟨v, t, wy, zs, rfl, ht, hR, hw, hz, hd, q⟩ := h
  refine ⟨_, pss_cons (ps_if (pt_cmpR op_gt (p_len B.len (pc cT hr hj (pa_cons (pv 0) pa_nil))) pe_int (nomark _)) pss_never pss_nil)
    (pss_cons (ps_for PassesOwn.never rfl (pi_enumT (by rfl) B.enumerate (pa_cons (pe_ifExp (pt_val (pc cI hr (by omega) (pa_cons (pv 0) pa_nil))) (pe_ix ix_tup (pv 0) pe_int (fun _ _ => rfl)) (pe_tup pa_nil)) pa_nil))
        (pg_tup rfl (pgs_cons (pg_name (i := 2) nd rfl (.inl rfl)) (pgs_cons (pg_name (i := 3) nd rfl (.inl rfl)) pgs_nil)))
        (pss_cons (ps_set (i := 4) nd rfl (.inl rfl) (pc cR hr (Nat.le_refl _) (pa_cons (pv 3) (pa_cons (pe_tup (StX.pa_star (pv 1) (pa_cons (pv 2) pa_nil))) pa_nil))))
          (pss_one (ps_if (pt_cmpR op_notN1 (pv 4) pe_non (nomark _)) pss_never pss_nil))))
      (pss_one (ps_ret pe_non))), ?_⟩
  have h1 : (trips t).length ≤ 1 := by
    cases t with
    | leaf b => exact Nat.zero_le _
    | node k ps => exact hR.trips
  refine ⟨v, rfl, v, t, rfl, ht, by omega, fun p us hp hu => ?_⟩
  have e1 := same_new hp (.lst us)
  have hul := hu.len
  refine ⟨p, us, rfl, .inl (sqL upd_same), _, _, rfl, rfl, _, rfl, ?_⟩
  rw [decide_eq_false (by omega)]
  refine iteF ⟨v, rfl, v, t, rfl, ht.same e1, _, rfl, ?_⟩
  have fin : ∀ (ps : List Tr) (c : Addr) (us : List V) (H1 : Hp), Same H H1 → H1 c = some (.tup us) → TrsAt H1 ps us → (∀ x ∈ ps, Red x ∧ dep x < n) → ∀ (g : TG) (tb : TS), g = gTup K 2 (gCons (gName 2) (gCons (gName 3) gNil)) →
      tb = tSeq (tAsg (tCall (sp_fork n) [] E0 (tCons (tVar 3) (tCons (tTup (StX.tStar K (tVar 1) (tCons (tVar 2) tNil))) tNil))) (gName 4)) (tIfS (tTest (tOp rNotN (tVar 4) (tC .non))) tNever tNext) → ∀ D0 : Ends, (∀ σ H', Same H H' → D0.nx σ H') →
      ∃ W : Nat → Nat → L2.St → Hp → Prop, (∃ m, W 0 m (start ["tree", "way", "place", "part", "found"] [v, .ref wy]) H1) ∧ ∀ i m σ H, W i m σ H →
      ((IteT K c).stop i H ∧ D0.nx σ H) ∨ ((IteT K c).go i H ∧ ∃ N : L2.St → Hp → Prop, (∀ σ' H', N σ' H' → ∃ m', m' < m ∧ W (i + 1) m' σ' H') ∧ ∀ x H', (IteT K c).yld i H x H' → g x σ H' fun σ2 H2 => tb { D0 with nx := N, ct := N, bk := D0.nx } σ2 H2) := by
    intro ps c us H1 eH hc hu hx g tb eg etb D0 hD0
    subst eg etb
    have hul := hu.len
    refine for_it (walk_enumT (K := K) (a := c) (xs := us)) (fun i σ H' => Same H1 H' ∧ ∃ o2 o3 o4, σ = [some v, some (.ref wy), o2, o3, o4]) ⟨Same.refl H1, _, _, _, rfl⟩ (fun i σ H' _ hp => sqT (hp.1 _ _ hc)) (fun i x σ H2 H3 hi hp hy => ?_) (fun σ H' hp => hD0 σ H' (eH.trans hp.1))
    obtain ⟨e2, o2, o3, o4, rfl⟩ := hp
    obtain ⟨T, y, rfl, hT, rfl, hy⟩ := hy
    have e3 := same_new hT (.tup [.int (i : Nat), y])
    have hi' : i < ps.length := by omega
    obtain ⟨y', e, hyt⟩ := hu.get (i := i) (List.getElem?_eq_getElem hi')
    rw [hy] at e
    cases e
    have hm := hx _ (List.getElem_mem hi')
    refine ⟨T, _, rfl, sqT upd_same, rfl, _, _, rfl, _, _, rfl, rfl, ?_⟩
    have hwy : (upd H2 T (.tup [.int (i : Nat), y])) wy = some (.tup zs) := e3 _ _ (e2 _ _ (eH _ _ hw))
    refine ⟨y, rfl, .ref wy, rfl, wy, zs, rfl, .inl (sqT hwy), .int (i : Nat), rfl, le_size (by rw [List.length_append]; simp; omega), fun R hR => ?_⟩
    have e4 := same_new hR (.tup (zs ++ [.int (i : Nat)]))
    refine ⟨y, ps[i], R, zs ++ [.int (i : Nat)], rfl, (((hyt.same e2).same e3).same e4), hm.1, upd_same, by rw [List.length_append]; simp; omega, hm.2, fun H5 e5 => ?_⟩
    refine ⟨.non, rfl, rfl, _, rfl, iteF ?_⟩
    exact ⟨e2.trans (e3.trans (e4.trans e5)), _, _, _, rfl⟩
  cases t with
  | leaf b =>
    refine iteF ⟨by decide, fun c hc => ⟨c, [], rfl, sqT upd_same, fin [] c [] _ (e1.trans (same_new hc _)) upd_same (trsAt_nil.mpr rfl) (fun x hx => nomatch hx) _ _ rfl rfl _ fun σ H' e => q H' e⟩⟩
  | node k ps =>
    obtain ⟨a, c, us', rfl, h2, h3, h4⟩ := trAt_node.mp (ht.same e1)
    refine iteT ⟨.ref a, rfl, a, _, 1, .ref c, rfl, rfl, sqT h2, atI_nat (j := 1) rfl, c, us', rfl, sqT h3, fin ps c us' _ e1 h3 h4 (fun x hx => ⟨hR.parts x hx, ?_⟩) _ _ rfl rfl _ fun σ H' e => q H' e⟩
    have := dep_mem hx
    rw [dep_node] at hd
    omega
theorem ok_fork (B : Bi mg) (D : Df K mg "fork_from" (tp 19) ["tree", "way"]) (cI : Cal P w K mg base 1 "is_trip" sp_is_trip) (cT : Cal P w K mg base 2 "own_trips" sp_own_trips) : ∀ n, Cal P w K mg base (n + 2) "fork_from" (sp_fork n)
  | 0 => D.never fun vs H Q E h => by
    obtain ⟨v, t, _, _, _, _, _, _, _, hd, _⟩ := h
    exact absurd hd (Nat.not_lt_zero _)
  | n + 1 => fork_step B D cI cT (ok_fork B D cI cT n) (by omega)
end
end Ks
set_option maxRecDepth 100000
set_option maxHeartbeats 4000000
/-! ### t[-2::-1], t a tuple of one item at least -/
namespace HT
open PySem PySem.Spec PyProof.Rows
section
variable {prog : Program} {w : World} {A : Around} {E : Value → Shared → Prop} {s : Shared}
theorem adjust_back {n : Nat} (h : 1 ≤ n) : Builtin.Slice.sliceAdjust (some (-2)) none (-1) (n : Int) = ((n : Int) - 2, -1) := by
  unfold Builtin.Slice.sliceAdjust
  have h1 : ((-1 : Int) < 0) := by decide
  have h2 : ((-2 : Int) < 0) := by decide
  simp only [h1, h2, if_true]
  refine Prod.ext ?_ rfl
  show max (-2 + (n : Int)) (-1) = (n : Int) - 2
  omega
theorem places_back {n : Nat} (h : 1 ≤ n) : Builtin.Slice.slicePlaces ((n : Int) - 2) (-1) (-1) = n - 1 := by
  unfold Builtin.Slice.slicePlaces
  have h1 : ¬ ((-1 : Int) > 0) := by decide
  simp only [h1, if_false]
  split
  · rw [show (- -1 : Int) = 1 by decide, Int.ediv_one]
    omega
  · have : (n : Int) - 2 ≤ -1 := by omega
    show (0 : Int).toNat = n - 1
    have : n = 1 := by omega
    subst this
    rfl
theorem pick_back (xs : List Value) (h : 1 ≤ xs.length) : ((List.range (xs.length - 1)).filterMap fun (m : Nat) => xs.toArray[((xs.length : Int) - 2 + (m : Int) * (-1)).toNat]?).toArray = xs.dropLast.reverse.toArray := by
  have e : (List.range (xs.length - 1)).filterMap (fun (m : Nat) => xs.toArray[((xs.length : Int) - 2 + (m : Int) * (-1)).toNat]?) = (List.range (xs.dropLast.reverse.toArray.size)).filterMap (xs.dropLast.reverse.toArray[·]?) := by
    have hl : xs.dropLast.reverse.toArray.size = xs.length - 1 := by simp
    rw [hl]
    have hc : ∀ m ∈ List.range (xs.length - 1), xs.toArray[((xs.length : Int) - 2 + (m : Int) * (-1)).toNat]? = xs.dropLast.reverse.toArray[m]? := fun m hm => by
      have hm := List.mem_range.mp hm
      have e1 : ((xs.length : Int) - 2 + (m : Int) * (-1)).toNat = xs.length - 2 - m := by omega
      rw [e1, List.getElem?_toArray, List.getElem?_toArray, List.getElem?_reverse (by rw [List.length_dropLast]; exact hm), List.length_dropLast, List.getElem?_dropLast, if_pos (by omega)]
      congr 1
    revert hc
    generalize List.range (xs.length - 1) = r
    intro hc
    induction r with
    | nil => rfl
    | cons a r ih =>
      rw [List.filterMap_cons, List.filterMap_cons, hc a (.head _), ih fun m hm => hc m (.tail _ hm)]
  rw [e, PySem.W.krv_all]
theorem sliceApplied_back {sl : Addr} {vl vs : Value} {n : Nat} {Q : Int × Int × Nat → Shared → Prop} (hn : 1 ≤ n) (hs : s.heap.IsSliceOf sl vl .none vs) (pl : IsPart vl (some (-2))) (ps : IsPart vs (some (-1)))
    (h : Q ((n : Int) - 2, -1, n - 1) s) : wpAny (model prog w) A (Builtin.Slice.sliceApplied (.ref sl) (pure (n : Int))) Q E s := by
  obtain ⟨os, hos, hcs, hds⟩ := id hs
  unfold Builtin.Slice.sliceApplied Builtin.Slice.sliceFields
  refine wpAny_bind (wpAny_bind (wpAny_field hos hds (x := vl) rfl (wpAny_bind (wpAny_field hos hds (x := .none) rfl (wpAny_bind (wpAny_field hos hds (x := vs) rfl (wpAny_pure ?_)))))))
  refine wpAny_bind (slicePart_ ps ?_)
  show wpAny _ _ (if ((-1 : Int) == 0) = true then _ else _) _ _ s
  rw [if_neg (by decide)]
  refine wpAny_bind (slicePart_ pl (wpAny_bind (slicePart_ .none (wpAny_bind (wpAny_pure ?_)))))
  show wpAny _ _ (match Builtin.Slice.sliceAdjust (some (-2)) none (-1) (n : Int) with | (lo, hi) => pure (lo, (-1 : Int), Builtin.Slice.slicePlaces lo hi (-1))) _ _ s
  rw [adjust_back hn]
  show wpAny _ _ (pure ((n : Int) - 2, (-1 : Int), Builtin.Slice.slicePlaces ((n : Int) - 2) (-1) (-1))) _ _ s
  rw [places_back hn]
  exact wpAny_pure h
theorem getItem_tuple_back {t sl : Addr} {its : List Value} {vl vs : Value} {Q : Value → Shared → Prop} (ht : IsTup s.heap t its.toArray) (hn : 1 ≤ its.length) (hs : s.heap.IsSliceOf sl vl .none vs) (pl : IsPart vl (some (-2))) (ps : IsPart vs (some (-1)))
    (h : Q (.ref s.heap.objs.size) { s with heap := s.heap.push { cls := .type "tuple", data := .seq its.dropLast.reverse.toArray } })
    (hsz : its.length ≤ sizeLine) : wpAny (model prog w) A (getItem (.ref t) (.ref sl)) Q E s := by
  have htake : sizeOk (.seq its.dropLast.reverse.toArray) := by
    show its.dropLast.reverse.toArray.size ≤ sizeLine
    rw [List.size_toArray, List.length_reverse, List.length_dropLast]
    omega
  obtain ⟨os, hos, hcs, hds⟩ := id hs
  have hTs : s.TypeIs (.ref sl) "slice" := ⟨os, hos, hcs⟩
  unfold getItem
  try with_reducible refine wpAny_holding ?_
  first | refine wpAny_bind (wpAny_pure ?_) | skip
  refine wpAny_bind (wpAny_sequenceKey ht.typeIs (by decide) ?_)
  refine wpAny_bind (wpAny_callSpecial?_slot (name := Str.ofString "__getitem__") ht.typeIs PyProof.Rows.slot_tuple_getitem
    (wpAny_call_entry PyProof.Rows.slot_tuple_getitem ht.typeIs entry_tuple_getitem ?_ (args_tuple_getitem _ _)))
  show wpAny _ _ (Builtin.Tuple.tupleItemsOf (.ref t) >>= _) _ _ s
  refine wpAny_bind (tupleItemsOf_ ht ?_)
  refine wpAny_bind (wpAny_typeOf hTs ?_)
  rw [if_pos (by decide)]
  have en : its.toArray.size = its.length := List.size_toArray ..
  rw [en]
  refine wpAny_bind (sliceApplied_back hn hs pl ps ?_)
  have hno : ¬ ((((its.length : Int) - 2) == 0 && (-1 : Int) == 1 && (its.length - 1) == its.length) = true) := by
    intro q
    rw [Bool.and_eq_true, Bool.and_eq_true] at q
    exact absurd q.1.2 (by decide)
  show wpAny _ _ (if (((its.length : Int) - 2) == 0 && (-1 : Int) == 1 && (its.length - 1) == its.length) = true then _ else _) _ _ s
  rw [if_neg hno, pick_back its hn]
  first
    | exact wpAny_bind (m := Builtin.Tuple.tupleExact _) (wpAny_newObj_type (wpAny_pure ⟨_, rfl, wpAny_pure h⟩) htake)
    | exact wpAny_bind (m := Builtin.Tuple.tupleExact _) (wpAny_newObj_type (wpAny_bind (wpAny_pure (wpAny_pure ⟨_, rfl, wpAny_pure h⟩))) htake)
    | exact wpAny_bind (wpAny_bind (m := Builtin.Tuple.tupleExact _) (wpAny_newObj_type (wpAny_pure (wpAny_pure ⟨_, rfl, wpAny_pure h⟩)) htake))
    | exact wpAny_bind (wpAny_bind (m := Builtin.Tuple.tupleExact _) (wpAny_newObj_type (wpAny_pure ⟨_, rfl, wpAny_pure h⟩) htake))
end
end HT
namespace Ks
open PySem PySem.Spec PyProof.Rows L2
section
variable {X : Cx}
theorem vals_dropLast : ∀ {xs : List V} {us : List Value}, Vals xs us → Vals xs.dropLast us.dropLast
  | [], _, .nil => .nil
  | [x], _, .cons h .nil => .nil
  | x :: y :: r, _, .cons h (.cons h2 h3) => .cons h (vals_dropLast (.cons h2 h3))
def tBack (K : PySem.W.Frag) (te : TE) : TE := fun σ H Q => te σ H fun x H1 => ∃ a xs, x = .ref a ∧ SqT K H1 a xs ∧ 1 ≤ xs.length ∧ ∀ p, H1 p = none → Q (.ref p) (upd H1 p (.tup xs.dropLast.reverse))
theorem pe_back {e : Expr} {te : TE} {k k2 : Nat} {p1 p2 p3 p4 p5 pos : Pos} (he : PE X e te) : PE X (.Subscript e (.Slice (some (.UnaryOp .USub (.Constant (.int 2) k2 p4) p5)) none (some (.UnaryOp .USub (.Constant (.int 1) k p1) p2)) p3) pos) (tBack X.K te) := by
  refine ⟨fun pins s σ H Q I h => ?_⟩
  refine Subscript_ (thn (he.run pins s σ H _ I h) fun v s1 ⟨x, H1, I1, r1, q1⟩ => ?_)
  obtain ⟨a, xs, ex, hx, hn, q⟩ := q1
  subst ex
  cases r1
  have hst : PO X (some (.UnaryOp .USub (.Constant (.int 1) k p1) p2)) (tPart (tUn (rU fun i => .int (-i)) (tC (.int 1)))) := po_some (pe_un un_neg pe_int)
  have hlo : PO X (some (.UnaryOp .USub (.Constant (.int 2) k2 p4) p5)) (tPart (tUn (rU fun i => .int (-i)) (tC (.int 2)))) := po_some (pe_un un_neg pe_int)
  refine wpAny_Slice (thn (hlo.run pins s1 σ H1 (fun o H2 => o = some (-2) ∧ H2 = H1) I1 ⟨2, rfl, -2, rfl, rfl, rfl⟩) fun vl s2 ⟨l, H2, I2, pl, el, e2⟩ => ?_)
  subst el e2
  refine thn (po_none.run pins s2 σ H2 (fun o H3 => o = none ∧ H3 = H2) I2 ⟨rfl, rfl⟩) fun vu s3 ⟨u, H3, I3, pu, eu, e3⟩ => ?_
  subst eu e3
  refine thn (hst.run pins s3 σ H3 (fun o H4 => o = some (-1) ∧ H4 = H3) I3 ⟨1, rfl, -1, rfl, rfl, rfl⟩) fun vs s4 ⟨o, H4, I4, ps, eo, e4⟩ => ?_
  subst eo e4
  have I5 : Inv X pins σ H4 { s4 with heap := s4.heap.push { cls := .type "slice", data := .fields #[vl, vu, vs] } } := I4.kept (t' := s4.toks) fun b ob q => Heap.get?_push_of_some _ q
  obtain ⟨its, r, ht, hz⟩ := I5.tuple hx
  have hlen := r.length
  obtain rfl : vu = Value.none := by
    cases pu
    rfl
  show wpAny (model X.prog X.w) X.A (subscriptTail e (.Slice (some (.UnaryOp .USub (.Constant (.int 2) k2 p4) p5)) none (some (.UnaryOp .USub (.Constant (.int 1) k p1) p2)) p3) (.ref a) (.ref s4.heap.objs.size)) (EP X pins σ Q) X.xe { s4 with heap := s4.heap.push { cls := .type "slice", data := .fields #[vl, .none, vs] } }
  refine tail_any (ops := [.ref a, .ref s4.heap.objs.size]) ht.typeIs (PyProof.Rows.slot_tuple_getitem.lookup) ?_ (by with_unfolding_all rfl)
  refine HT.getItem_tuple_back ht (by omega) (Heap.IsSliceOf.new _ vl .none vs) pl ps ?_ (by omega)
  refine ⟨.ref _, _, I5.laid (t' := s4.toks) (o := .tup xs.dropLast.reverse) (fun b ob q => Heap.get?_push_of_some _ q) (Nat.le_refl _) ?_, rfl, q _ (I5.hok.fresh (Nat.le_refl _))⟩
  refine ⟨by rw [List.length_reverse, List.length_dropLast]; omega, _, (vals_dropLast r).reverse, ⟨_, Heap.get?_push_size _ rfl, rfl, 0, rfl⟩⟩
end
end Ks
set_option maxRecDepth 100000
set_option maxHeartbeats 4000000
namespace Ks
open PySem PySem.Spec PyProof.Rows L2
/-! ### a promise of a def that is called where no repr is under way -/
def NoG (A : Around) : Prop := A.guards = some []
structure GOk (P : Program) (w : World) (K : PySem.W.Frag) (mg : Str → Option Value) (base : Heap) (k : Nat) (f : Addr) (fd : FuncData) (ps : List Str) (sp : Sp) : Prop where
  len : ∀ vs H Q E, sp vs H Q E → vs.length = ps.length
  run : ∀ (A : Around) (outer : List Env) (s : Shared) (H : Hp) (args : Args) (us : List Value) (vs : List V) (Q : VK), NoG A → Room k A → Env0 P w K mg base A outer s H → BindsTo s fd args (ps.zip us) → Vals vs us → sp vs H Q E0 →
    codeAny (model P w) A (.call (.ref f) args) (CR CX0 outer P w H s Q E0) s
structure CalG (P : Program) (w : World) (K : PySem.W.Frag) (mg : Str → Option Value) (base : Heap) (k : Nat) (x : Str) (sp : Sp) : Prop where
  ex : ∃ (f : Addr) (fd : FuncData) (ps : List Str), GOk P w K mg base k f fd ps sp ∧ mg x = some (.ref f) ∧ PySem.W.keepIn K (.ref f) = true ∧ Binds K fd ps []
section
variable {P : Program} {w : World} {K : PySem.W.Frag} {mg : Str → Option Value} {base : Heap} {k j : Nat} {x : Str} {sp : Sp}
theorem CalG.mono (c : CalG P w K mg base k x sp) (h : k ≤ j) : CalG P w K mg base j x sp :=
  let ⟨f, fd, ps, F, a, b, d⟩ := c.ex
  ⟨f, fd, ps, ⟨F.len, fun A outer s H args us vs Q g hr => F.run A outer s H args us vs Q g (hr.mono h)⟩, a, b, d⟩
/-- the same as Fun.ok, the place of the call known to have no repr about it -/
theorem gok_of {st : Stmt} {f : Addr} {fd : FuncData} {N ps : List Str} (F : Fun K x x st f fd) (S : FnScope N ps (defScope st)) (len : ∀ vs H Q E, sp vs H Q E → vs.length = ps.length)
    (body : ∀ (cdv : Value) (A : Around) (outer : List Env) (s : Shared) (H : Hp) (vs : List V) (Q : VK), NoG A → Room k (A.deeper (envOfC x (defScope st) s.heap.objs.size f cdv)) → sp vs H Q E0 →
      ∃ t, PSs (cxOf CX0 P w K mg base N x (defScope st) f cdv A outer s H E0).nox (defBody st) t ∧ t { nx := fun _ H' => Q .non H', rt := Q } (start N vs) H) : GOk P w K mg base (k + 1) f fd ps sp := by
  obtain ⟨oc, od, kV, doc, pm, an, cdv, ct, osl, efd, lk, hcd⟩ := F.ex
  refine ⟨len, fun A outer s H args us vs Q hg hr e0 bt r hsp => ?_⟩
  subst efd
  have old : ∀ b o, base.get? b = some o → s.heap.get? b = some o := fun b o e => (e0.bs b o e).1
  have hK := e0.mod.kin.keeps old
  obtain ⟨t, ht, hq⟩ := body cdv A outer s H vs Q hg (hr.deeper _) hsp
  have ends : ∀ (y : Str × Value), y ∈ ps.zip us → (defScope st).names.lookup y.1 = some .local ∨ ((defScope st).names.lookup y.1 = some .cell ∧ ((cellsFrom (s.heap.objs.size + 1) (defScope st).names []).lookup y.1).isSome = true) := by
    rintro ⟨n, v⟩ hy
    exact (S.par n (List.of_mem_zip hy).1).imp id fun q => ⟨q, Option.isSome_iff_exists.mpr (cell_has q)⟩
  refine codeAny_call_function hr.depth (hK _ _ lk) rfl S.co S.gen rfl (PySem.W.codeRec_of hK hcd) (bt _ _ _ _ (wpAny_newFunctionEnv_cells S.kind ends ?_))
  rintro _ rfl s1 x1
  refine ⟨(e0.mod.nolimit.keeps old).keeps x1.toInCall.keep, codeAny_func (wpAny_mono (ht.nox.run [] s1 (start N vs) H _ (inv_start S hr.hd e0 (len _ _ _ _ hsp) r x1) hq) (fun fl s' hs => ?_) fun _ _ h => h)⟩
  cases fl with
  | next => exact let ⟨_, H', J, q⟩ := hs; ⟨V.non, H', J.os, J.bare, J.base, J.hok, rfl, q⟩
  | brk =>
    obtain ⟨_, _, _, z⟩ := hs
    exact z.elim
  | cont =>
    obtain ⟨_, _, _, z⟩ := hs
    exact z.elim
  | ret u => exact let ⟨v, _, H', J, rv, q⟩ := hs; ⟨v, H', J.os, J.bare, J.base, J.hok, rv, q⟩
theorem Df.calG {st : Stmt} {N ps : List Str} (D : Df K mg x st ps) (S : FnScope N ps (defScope st)) (len : ∀ vs H Q E, sp vs H Q E → vs.length = ps.length)
    (body : ∀ (f : Addr) (cdv : Value) (A : Around) (outer : List Env) (s : Shared) (H : Hp) (vs : List V) (Q : VK), NoG A → Room k (A.deeper (envOfC x (defScope st) s.heap.objs.size f cdv)) → sp vs H Q E0 →
      ∃ t, PSs (cxOf CX0 P w K mg base N x (defScope st) f cdv A outer s H E0).nox (defBody st) t ∧ t { nx := fun _ H' => Q .non H', rt := Q } (start N vs) H) : CalG P w K mg base (k + 1) x sp :=
  let ⟨f, fd, F, m, b⟩ := D.ex
  ⟨f, fd, ps, gok_of F S len fun cdv A outer s H vs Q => body f cdv A outer s H vs Q, m, F.kp, b⟩
end
section
variable {X : Cx} {k j : Nat} {x : Str} {sp : Sp} {p pos : Pos} {e : Expr} {es : List Expr} {t : TA}
/-- f(e, ..) -/
theorem pcG (c : CalG X.prog X.w X.K X.mg X.base k x sp) (g : NoG X.A) (hr : Room j X.A) (hk : k ≤ j) (ha : PA X (e :: es) t) (hg : Gl X x := by rfl)
    (hdb : (x == ("__debug__" : Str)) = false := by decide) (he : starEach (e :: es) X.env = (false, eval e X.env) :: starEach es X.env := by rfl) (hpl : (backTo pos (starEach es X.env)).any (·.1) = false := by rfl) :
    PE X (.Call (.Name x p) (e :: es) [] pos) (tCall sp [] E0 t) := by
  obtain ⟨f, fd, ps, F, hm, kp, b⟩ := c.ex
  refine ⟨fun pins s σ H Q I h => wpAny_Call_Name_kw (ld_glob I hg hm ?_ hdb)⟩
  refine PySem.W.callWith_K (h₀ := X.base) I.ok.mod.kin kp (thn (ha.run pos pins s σ H _ I h) fun us s1 ⟨vs, H1, I1, r, q⟩ => ⟨I1.kIn, ?_⟩) he hpl
  have q : sp (vs ++ []) H1 Q E0 := q
  rw [List.append_nil] at q
  have l : (us ++ ([] : List Value)).length = ps.length := by
    rw [List.append_nil, ← r.length]
    exact F.len _ _ _ _ q
  have bt := b s1 us I1.kIn l
  rw [List.append_nil] at bt
  refine wpAny_call (codeAny_mono (F.run X.A X.stack s1 H1 ⟨us, []⟩ us vs Q g (hr.mono hk) I1.env0 bt r q) fun res s' hq => ?_)
  match res, hq with
  | .error _, hq => exact hq.elim
  | .ok (.ret u), hq => exact I1.after hq
/-! ### f(x = e), f a def with the one parameter x -/
structure CalK (P : Program) (w : World) (K : PySem.W.Frag) (mg : Str → Option Value) (base : Heap) (k : Nat) (x y : Str) (sp : Sp) : Prop where
  ex : ∃ (f : Addr) (fd : FuncData), FnOk P w K mg base CX0 k f fd [y] sp ∧ mg x = some (.ref f) ∧ PySem.W.keepIn K (.ref f) = true ∧ Binds K fd [y] [] ∧ ∀ u : Value, bindArgs fd ⟨[], [(y, u)]⟩ = pure [(y, u)]
theorem CalK.cal {P : Program} {w : World} {K : PySem.W.Frag} {mg : Str → Option Value} {base : Heap} {y : Str} (c : CalK P w K mg base k x y sp) : Cal P w K mg base k x sp :=
  let ⟨f, fd, F, m, kp, b, _⟩ := c.ex
  ⟨f, fd, [y], F, m, kp, b⟩
theorem pcK {y : Str} {kpos : Pos} {te : TE} (c : CalK X.prog X.w X.K X.mg X.base k x y sp) (hr : Room j X.A) (hk : k ≤ j) (he : PE X e te) (hg : Gl X x := by rfl) (hdb : (x == ("__debug__" : Str)) = false := by decide)
    (hall : (backToKw pos (keywordEach [⟨some y, e, kpos⟩] X.env)).all (·.1.isSome) = true := by rfl) (hks : (backToKw pos (keywordEach [⟨some y, e, kpos⟩] X.env)).filterMap (·.1) = [y] := by rfl)
    (hpl : ((backTo pos (starEach [] X.env)).any (·.1) || (backToKw pos (keywordEach [⟨some y, e, kpos⟩] X.env)).any (·.1.isNone)) = false := by rfl) :
    PE X (.Call (.Name x p) [] [⟨some y, e, kpos⟩] pos) (tCall sp [] E0 (tCons te tNil)) := by
  obtain ⟨f, fd, F, hm, kp, b, hb⟩ := c.ex
  refine ⟨fun pins s σ H Q I h => wpAny_Call_Name_kw (ld_glob I hg hm ?_ hdb)⟩
  refine PySem.W.callWith_KW0 (h₀ := X.base) I.ok.mod.kin kp hall ?_ hpl
  refine thn ((pk_cons (nm := some y) (kpos := kpos) he pk_nil).run pos pins s σ H _ I h) fun ws s2 ⟨zs, H2, I2, rz, q2⟩ => ⟨I2.kIn, ?_⟩
  rw [hks]
  have q2 : sp (zs ++ []) H2 Q E0 := q2
  rw [List.append_nil] at q2
  have l1 := F.len _ _ _ _ q2
  have l2 := rz.length
  match zs, ws, l1, l2, rz with
  | [v], [u], _, _, rz =>
    refine wpAny_call (codeAny_mono (F.run X.A X.stack s2 H2 ⟨[], [(y, u)]⟩ [u] [v] Q E0 (hr.mono hk) I2.env0 (.of_eq (hb u)) rz q2) fun res s' hq => ?_)
    match res, hq with
    | .error _, hq => exact hq.elim
    | .ok (.ret u), hq => exact I2.after hq
/-! ### repr of a list or a tuple of data -/
theorem p_repr (hg : Gl X "repr") (hm : X.mg "repr" = none) (g : NoG X.A) (hu : X.A.units + 64 < cLine) {te : TE} (he : PE X e te) (hs : starEach [e] X.env = (false, eval e X.env) :: starEach [] X.env := by rfl) (hpl : (backTo pos (starEach ([] : List Expr) X.env)).any (·.1) = false := by rfl) :
    PE X (.Call (.Name "repr" p) [e] [] pos) (tCB (fun vs H Q => ∃ a d, vs = [V.ref a] ∧ Dp X.K H (.ref a) d ∧ d.showable = true ∧ d.hasDict = false ∧ d.depth ≤ 60 ∧ d.shown.length ≤ sizeLine ∧ Q (.str d.shown) H) (tCons te tNil)) := by
  have boot : bootBuiltins "repr" = some (.builtin "repr") := by decide +kernel
  refine pe_callB (id := "repr") (r := fun vs H Q => ∃ a d, vs = [V.ref a] ∧ Dp X.K H (.ref a) d ∧ d.showable = true ∧ d.hasDict = false ∧ d.depth ≤ 60 ∧ d.shown.length ≤ sizeLine ∧ Q (.str d.shown) H) ?_ hg hm boot (pa_cons he pa_nil hs) (by decide) (by decide) hs hpl
  intro pins s σ H vs us Q I r h
  obtain ⟨a, d, rfl, hd, h1, h2, h3, h4, q⟩ := h
  rw [Vals.ref1 r]
  obtain ⟨as, rd⟩ := Dp.reads I d (.ref a) (.ref a) hd rfl
  refine repr_of_reads' rd h1 (fun z => by rw [h2] at z; cases z) g (by omega) (fun b o e => e) (fun h' u tk hk => ?_) h4
  exact ⟨.str d.shown, H, I.kept (t' := tk) hk, ⟨u, rfl⟩, q⟩
end
end Ks
set_option maxRecDepth 100000
set_option maxHeartbeats 4000000
namespace Ks
open PySem PySem.Spec PyProof.Rows L2
/-! ### level_rows, weight_over, pairs_and_weights -/
theorem sc_level_rows : FnScope ["tree", "found", "rest", "inner"] ["tree"] (defScope (tp 20)) := ⟨rfl, rfl, rfl, by decide +kernel, rfl, by decide +kernel, by decide +kernel⟩
theorem sc_weight_over : FnScope ["k", "many", "a", "b"] ["k", "many", "a", "b"] (defScope (tp 21)) := ⟨rfl, rfl, rfl, by decide +kernel, rfl, by decide +kernel, by decide +kernel⟩
theorem sc_paws : FnScope ["rows", "k", "own", "pairs", "weights", "bound", "buttons", "a", "b", "many", "weight"] ["rows"] (defScope (tp 22)) := ⟨rfl, rfl, rfl, by decide +kernel, rfl, by decide +kernel, by decide +kernel⟩
def RwsAt (H : Hp) : List Lv → List V → Prop
  | [], us => us = []
  | (k, bs) :: L, us => ∃ a c u, us = .ref a :: u ∧ H a = some (.tup [.int k, .ref c]) ∧ H c = some (.tup (bs.map V.int)) ∧ RwsAt H L u
def PrsAt (H : Hp) : List Pw → List V → Prop
  | [], us => us = []
  | p :: R, us => ∃ a u, us = .ref a :: u ∧ H a = some (.tup [.int p.a, .int p.b]) ∧ PrsAt H R u
theorem RwsAt.mono {H H' : Hp} (e : TupK H H') : ∀ {L : List Lv} {us : List V}, RwsAt H L us → RwsAt H' L us
  | [], _, h => h
  | (k, bs) :: L, _, ⟨a, c, u, e1, h1, h2, h3⟩ => ⟨a, c, u, e1, e _ _ h1, e _ _ h2, h3.mono e⟩
theorem PrsAt.mono {H H' : Hp} (e : TupK H H') : ∀ {L : List Pw} {us : List V}, PrsAt H L us → PrsAt H' L us
  | [], _, h => h
  | p :: L, _, ⟨a, u, e1, h1, h3⟩ => ⟨a, u, e1, e _ _ h1, h3.mono e⟩
theorem RwsAt.app {H : Hp} : ∀ {L M : List Lv} {us vs : List V}, RwsAt H L us → RwsAt H M vs → RwsAt H (L ++ M) (us ++ vs)
  | [], M, us, vs, h, h' => by
    have h : us = [] := h
    subst h
    exact h'
  | (k, bs) :: L, M, us, vs, ⟨a, c, u, e1, h1, h2, h3⟩, h' => ⟨a, c, u ++ vs, by rw [e1]; rfl, h1, h2, h3.app h'⟩
theorem RwsAt.len {H : Hp} : ∀ {L : List Lv} {us : List V}, RwsAt H L us → us.length = L.length
  | [], us, h => by
    have h : us = [] := h
    subst h
    rfl
  | (k, bs) :: L, us, ⟨a, c, u, e1, h1, h2, h3⟩ => by rw [e1, List.length_cons, List.length_cons, h3.len]
theorem PrsAt.len {H : Hp} : ∀ {L : List Pw} {us : List V}, PrsAt H L us → us.length = L.length
  | [], us, h => by
    have h : us = [] := h
    subst h
    rfl
  | p :: L, us, ⟨a, u, e1, h1, h3⟩ => by rw [e1, List.length_cons, List.length_cons, h3.len]
theorem RwsAt.get {H : Hp} : ∀ {L : List Lv} {us : List V}, RwsAt H L us → ∀ {i : Nat} {l : Lv}, L[i]? = some l → ∃ a c, us[i]? = some (.ref a) ∧ H a = some (.tup [.int l.1, .ref c]) ∧ H c = some (.tup (l.2.map V.int))
  | [], us, h, i, l, e => by simp at e
  | (k, bs) :: L, us, ⟨a, c, u, e1, h1, h2, h3⟩, i, l, e => by
    subst e1
    cases i with
    | zero =>
      have e : (k, bs) = l := by simpa using e
      subst e
      exact ⟨a, c, rfl, h1, h2⟩
    | succ i => exact h3.get (i := i) (by simpa using e)
theorem Ok.all : ∀ {L : List Lv}, Ok L → ∀ l ∈ L, 1 ≤ l.1 ∧ l.1 ≤ (l.2.length : Int) + 1 ∧ 1 ≤ l.2.length
  | [], h, _, _ => False.elim h
  | [(k, bs)], h, l, hl => by
    have h : 1 ≤ k ∧ k ≤ (bs.length : Int) := h
    rcases List.mem_singleton.mp hl with rfl
    refine ⟨h.1, ?_, ?_⟩
    · show k ≤ (bs.length : Int) + 1
      omega
    · show 1 ≤ bs.length
      omega
  | (k, bs) :: l' :: L, h, l, hl => by
    have h : 1 ≤ k ∧ k ≤ (bs.length : Int) + 1 ∧ 1 ≤ bs.length ∧ Ok (l' :: L) := h
    rcases List.mem_cons.mp hl with rfl | hl
    · exact ⟨h.1, h.2.1, h.2.2.1⟩
    · exact Ok.all h.2.2.2 l hl
theorem lv_len {l : Lv} : ∀ {L : List Lv}, l ∈ L → l.2.length ≤ (L.flatMap (·.2)).length
  | q :: r, h => by
    rw [List.flatMap_cons, List.length_append]
    rcases List.mem_cons.mp h with rfl | h
    · omega
    · have := lv_len h
      omega
theorem lvs_count : ∀ {L : List Lv}, (∀ l ∈ L, 1 ≤ l.2.length) → L.length ≤ (L.flatMap (·.2)).length
  | [], _ => Nat.le_refl _
  | q :: r, h => by
    have h1 := h q (.head _)
    have h2 := lvs_count fun x hx => h x (.tail _ hx)
    rw [List.flatMap_cons, List.length_append, List.length_cons]
    omega
theorem lvs_uniq {t : Tr} {L : List Lv} (h : Lvs t L) : ∀ {M : List Lv}, Lvs t M → L = M := by
  induction h with
  | leaf b =>
    intro M hM
    cases hM
    rfl
  | last h =>
    intro M hM
    cases hM with
    | last _ => rfl
    | more h' _ =>
      rw [h] at h'
      cases h'
  | more h ht ih =>
    intro M hM
    cases hM with
    | last h' =>
      rw [h] at h'
      cases h'
    | more h' ht' =>
      rw [h] at h'
      cases h'
      rw [ih ht']
def sp_level_rows : Sp := fun vs H Q _ => ∃ (v : V) (t : Tr) (L : List Lv), vs = [v] ∧ TrAt H t v ∧ Nst t ∧ (btns t).length ≤ 60 ∧ dep t < 16 ∧ Lvs (red t) L ∧ ∀ p us H2, Same H H2 → H2 p = some (.lst us) → RwsAt H2 L us → Q (.ref p) H2
def sp_weight_over : Sp := fun vs H Q _ => ∃ (k s a b : Int), vs = [.int k, .int s, .int a, .int b] ∧ Q (.int (wt k s a b)) H
def sp_paws : Sp := fun vs H Q _ => ∃ (r : Addr) (us : List V) (L : List Lv), vs = [.ref r] ∧ H r = some (.tup us) ∧ RwsAt H L us ∧ Ok L ∧ (L.flatMap (·.2)).length ≤ 60 ∧
  ∀ T p q ps H2, Same H H2 → H2 T = some (.tup [.ref p, .ref q]) → H2 p = some (.lst ps) → PrsAt H2 (pw L) ps → H2 q = some (.lst ((pw L).map fun x => V.int x.w)) → Q (.ref T) H2
section
variable {P : Program} {w : World} {K : PySem.W.Frag} {mg : Str → Option Value} {base : Heap}
theorem ok_weight_over (B : Bi mg) (D : Df K mg "weight_over" (tp 21) ["k", "many", "a", "b"]) : Cal P w K mg base 1 "weight_over" sp_weight_over := by
  refine D.cal sc_weight_over (fun vs H Q E h => ?_) (fun f cdv A outer s H vs Q E hr h => ?_)
  · obtain ⟨k, s, a, b, rfl, _⟩ := h
    rfl
  obtain ⟨k, s, a, b, rfl, q⟩ := h
  refine ⟨_, pss_cons (ps_if (pt_cmpR op_lt (pv 0) pe_int (nomark _)) (pss_one (ps_ret (pv 2))) pss_nil)
    (pss_one (ps_ret (pe_ifExp (pt_cmpR op_ge (pv 1) (pv 0) (nomark _)) (pe_callB (call_max2 rfl) (by rfl) (show mg "max" = none from B.max) PyProof.Rows.boot_max (pa_cons (pv 2) (pa_cons (pv 3) pa_nil))) (pv 3)))), ?_⟩
  refine ⟨.int k, rfl, k, 2, rfl, rfl, _, rfl, ?_⟩
  unfold wt at q
  by_cases h1 : k < 2
  · rw [decide_eq_true h1]
    rw [if_pos h1] at q
    exact iteT ⟨.int a, rfl, q⟩
  · rw [decide_eq_false h1]
    rw [if_neg h1] at q
    refine iteF ⟨.int s, rfl, .int k, rfl, s, k, rfl, rfl, _, rfl, ?_⟩
    by_cases h2 : s ≥ k
    · rw [decide_eq_true h2]
      rw [if_pos h2] at q
      refine iteT ⟨.int a, rfl, .int b, rfl, a, b, rfl, ?_⟩
      have e : (if b > a then b else a) = max a b := by
        split <;> omega
      rw [e]
      exact q
    · rw [decide_eq_false h2]
      rw [if_neg h2] at q
      exact iteF ⟨.int b, rfl, q⟩
theorem ok_level_rows (B : Bi mg) (D : Df K mg "level_rows" (tp 20) ["tree"]) (cI : Cal P w K mg base 1 "is_trip" sp_is_trip) (cT : Cal P w K mg base 22 "told" (sp_told 16)) (cB : Cal P w K mg base 2 "own_buttons" sp_own_buttons) (cO : Cal P w K mg base 2 "own_trips" sp_own_trips) :
    Cal P w K mg base 23 "level_rows" sp_level_rows := by
  refine D.cal sc_level_rows (fun vs H Q E h => ?_) (fun f cdv A outer s H vs Q E hr h => ?_)
  · obtain ⟨v, t, L, rfl, _⟩ := h
    rfl
  have nd := sc_level_rows.nd
  have hu := hr.units
  obtain ⟨v, t, L, rfl, ht, hN, hb, hd, hL, q⟩ := h
  refine ⟨_, pss_cons (ps_par (i := 1) (j := 2) rfl nd rfl rfl (by decide) rfl rfl (pa_cons (pe_lst pa_nil) (pa_cons (pc cT hr (by decide) (pa_cons (pv 0) pa_nil)) pa_nil)) (by rfl))
    (pss_cons (ps_if (pt_not (pt_val (pc cI hr (by decide) (pa_cons (pv 2) pa_nil)))) (pss_one (ps_ret (pe_lst (pa_cons (pe_tup (pa_cons pe_int (pa_cons (pe_tup (pa_cons (pv 2) pa_nil)) pa_nil))) pa_nil)))) pss_nil)
    (pss_cons (ps_while PassesOwn.never (pt_cmpR op_notN1 (pv 2) pe_non (nomark _))
      (pss_cons (ps_expr (pe_bm PySem.F.plainAttrs_list PySem.F.slot_list_append PySem.F.type_list_append mt_append (pv 1) (pa_cons (pe_tup (pa_cons (pe_ix ix_tup (pv 2) pe_int (fun _ _ => rfl)) (pa_cons (pe_callTy call_tuple_of (by rfl) B.tuple (by decide +kernel) (pa_cons (pc cB hr (by decide) (pa_cons (pv 2) pa_nil)) pa_nil)) pa_nil))) pa_nil)))
      (pss_cons (ps_set (i := 3) nd rfl (.inl rfl) (pc cO hr (by decide) (pa_cons (pv 2) pa_nil)))
      (pss_one (ps_set (i := 2) nd rfl (.inl rfl) (pe_ifExp (pt_cmpR (op_neD hu) (pv 3) (pe_lst pa_nil) (by rfl)) (pe_ix ix_list (pv 3) pe_int (fun _ _ => rfl)) pe_non))))))
    (pss_one (ps_ret (pv 1))))), ?_⟩
  refine ⟨by decide, fun F hF => ?_⟩
  have e1 := same_new hF (.lst [])
  refine ⟨v, rfl, v, t, rfl, ht.same e1, hN, by omega, hd, fun x H2 e2 hx => ⟨_, _, rfl, ?_⟩⟩
  have hR := red_Red hN
  have hbr : (btns (red t)).length ≤ 60 := by rw [(red_btns t).length_eq]; exact hb
  have hdr : dep (red t) < 16 := by have := red_dep t; omega
  have hF2 : H2 F = some (.lst []) := e2 _ _ upd_same
  have eH2 : Same H H2 := e1.trans e2
  generalize red t = r at *
  refine ⟨x, rfl, x, r, rfl, hx, _, rfl, ?_⟩
  cases r with
  | leaf b =>
    cases hL
    have hx := trAt_leaf.mp hx
    subst hx
    refine iteT ⟨.int b, rfl, (by show 1 ≤ sizeLine; decide), fun T1 h1 => ⟨(by show 2 ≤ sizeLine; decide), fun T2 h2 => ⟨(by show 1 ≤ sizeLine; decide), fun R h3 => ?_⟩⟩⟩
    have s1 := same_new h1 (.tup [.int b])
    have s2 := same_new h2 (.tup [.int 1, .ref T1])
    have s3 := same_new h3 (.lst [.ref T2])
    exact q R [.ref T2] _ (eH2.trans (s1.trans (s2.trans s3))) upd_same ⟨T2, T1, [], rfl, s3 _ _ upd_same, s3 _ _ (s2 _ _ upd_same), rfl⟩
  | node k0 ps0 =>
    refine iteF ?_
    have hLl : L.length ≤ 60 := by
      obtain ⟨L', hl', ok'⟩ := lvs_of hR
      have hbl := (lvs_btns hl').length_eq
      have : L' = L := lvs_uniq hl' hL
      subst this
      have := lvs_count fun l hl => (Ok.all ok' l hl).2.2
      omega
    refine ⟨fun m σ H' => ∃ ys Ld o r, σ = [some v, some (.ref F), some r, o] ∧ H' F = some (.lst ys) ∧ Same H H' ∧ RwsAt H' Ld ys ∧ ((r = .non ∧ Ld = L ∧ m = 0) ∨ ∃ k ps Lr, TrAt H' (.node k ps) r ∧ Red (.node k ps) ∧ (btns (.node k ps)).length ≤ 60 ∧ dep (.node k ps) < 16 ∧ Lvs (.node k ps) Lr ∧ L = Ld ++ Lr ∧ m = Lr.length), ⟨_, [], [], _, x, rfl, hF2, eH2, rfl, .inr ⟨k0, ps0, L, hx, hR, hbr, hdr, hL, rfl, rfl⟩⟩, ?_⟩
    rintro m σ H' ⟨ys, Ld, o, r, rfl, g1, g2, g3, g4⟩
    refine ⟨r, rfl, rfl, _, rfl, ?_⟩
    rcases g4 with ⟨rfl, rfl, rfl⟩ | ⟨k, ps, Lr, a1, a2, a3, a4, a5, rfl, rfl⟩
    · exact iteF ⟨.ref F, rfl, q F ys H' g2 g1 g3⟩
    · obtain ⟨a, c, us, rfl, b1, b2, b3⟩ := trAt_node.mp a1
      have hpl : ps.length ≤ 60 := by
        have := reds_len a2.parts
        rw [btns_node] at a3
        omega
      refine iteT ?_
      refine ⟨fun σ' H'' => ∃ ys' Ld' o' r', σ' = [some v, some (.ref F), some r', o'] ∧ H'' F = some (.lst ys') ∧ Same H H'' ∧ RwsAt H'' Ld' ys' ∧ ((r' = .non ∧ Ld' = Ld ++ Lr) ∨ ∃ k ps Lr', TrAt H'' (.node k ps) r' ∧ Red (.node k ps) ∧ (btns (.node k ps)).length ≤ 60 ∧ dep (.node k ps) < 16 ∧ Lvs (.node k ps) Lr' ∧ Ld ++ Lr = Ld' ++ Lr' ∧ Lr'.length < Lr.length), ?_, ?_⟩
      · rintro σ' H'' ⟨ys', Ld', o', r', z1, z2, z3, z4, z5⟩
        have hpos : 0 < Lr.length := by
          cases a5 <;> simp
        rcases z5 with ⟨z5, z6⟩ | ⟨k1, ps1, L1, y1, y2, y3, y4, y5, y6, y7⟩
        · exact ⟨0, hpos, ys', Ld', o', r', z1, z2, z3, z4, .inl ⟨z5, z6, rfl⟩⟩
        · exact ⟨_, y7, ys', Ld', o', r', z1, z2, z3, z4, .inr ⟨k1, ps1, L1, y1, y2, y3, y4, y5, y6, rfl⟩⟩
      · have hyl := g3.len
        have hll : Ld.length + Lr.length ≤ 60 := by
          rw [List.length_append] at hLl
          exact hLl
        refine ⟨.ref F, rfl, .inl ⟨rfl, _, sqL g1⟩, .ref a, rfl, a, _, 0, .int k, rfl, rfl, sqT b1, atI_nat (j := 0) rfl, .ref a, rfl, .ref a, k, ps, rfl, a1, by omega, fun B1 hB1 => ?_⟩
        have s1 := same_new hB1 (.lst ((ownB ps).map V.int))
        refine ⟨B1, _, rfl, .inl ⟨sqL upd_same, fun B2 hB2 => ?_⟩⟩
        have s2 := same_new hB2 (.tup ((ownB ps).map V.int))
        refine ⟨(by show 2 ≤ sizeLine; decide), fun B3 hB3 => ?_⟩
        have s3 := same_new hB3 (.tup [.int k, .ref B2])
        have s13 := s1.trans (s2.trans s3)
        refine ⟨F, ys, .ref B3, rfl, rfl, s13 _ _ g1, lt_size (by omega), ?_⟩
        have hFH := hF
        generalize eH3 : upd (upd (upd (upd H' B1 (.lst ((ownB ps).map V.int))) B2 (.tup ((ownB ps).map V.int))) B3 (.tup [.int k, .ref B2])) F (.lst (ys ++ [.ref B3])) = H3
        have tk : TupK H' H3 := by
          rw [← eH3]
          exact (Same.tupK s13).trans (tupK_lst (s13 _ _ g1))
        have eS : Same H H3 := by
          rw [← eH3]
          exact Same.upd' (g2.trans s13) hF
        have h3F : H3 F = some (.lst (ys ++ [.ref B3])) := by
          rw [← eH3]
          exact upd_same
        have hB3' : H3 B3 = some (.tup [.int k, .ref B2]) := by
          rw [← eH3]
          exact tupK_lst (s13 _ _ g1) _ _ upd_same
        have hB2' : H3 B2 = some (.tup ((ownB ps).map V.int)) := by
          rw [← eH3]
          exact tupK_lst (s13 _ _ g1) _ _ (s3 _ _ upd_same)
        have rw3 : RwsAt H3 (Ld ++ [(k, ownB ps)]) (ys ++ [.ref B3]) := (g3.mono tk).app ⟨B3, B2, [], rfl, hB3', hB2', rfl⟩
        clear eH3
        have t3 : TrAt H3 (.node k ps) (.ref a) := a1.mono tk
        have htr := a2.trips
        refine ⟨.ref a, rfl, .ref a, .node k ps, rfl, t3, Nat.le_trans htr (by decide), fun p4 ts hp4 hts => ?_⟩
        have s4 := same_new hp4 (.lst ts)
        have htl := hts.len
        refine ⟨.ref p4, rfl, ?_⟩
        refine rd_ne (xs := ts) (ds := treesD (trips (.node k ps))) upd_same (fun H' e => dpTs ((hts.same s4).same e)) (shaped_ts (n := 16) (fun p hp => ?_) (by decide)) fun p5 hp5 => ⟨_, rfl, ?_⟩
        · have := dep_mem (mem_ownT (show p ∈ ownT ps from hp))
          rw [dep_node] at a4
          omega
        have s5 := same_new hp5 (.lst [])
        cases hT : ownT ps with
        | nil =>
          have hts : TrsAt H3 (ownT ps) ts := hts
          rw [hT] at hts
          obtain rfl := trsAt_nil.mp hts
          refine iteF ⟨ys ++ [.ref B3], Ld ++ [(k, ownB ps)], _, .non, rfl, s5 _ _ (s4 _ _ h3F), eS.trans (s4.trans s5), (rw3.mono (Same.tupK s4)).mono (Same.tupK s5), .inl ⟨rfl, ?_⟩⟩
          cases a5 with
          | last _ => rfl
          | more h _ =>
            rw [hT] at h
            cases h
        | cons t1 r1 =>
          have htr : (ownT ps).length ≤ 1 := htr
          have hts : TrsAt H3 (ownT ps) ts := hts
          rw [hT] at hts htr
          have hr1 : r1 = [] := by
            cases r1 with
            | nil => rfl
            | cons _ _ => simp at htr
          subst hr1
          obtain ⟨y, u, rfl, y1, y2⟩ := trsAt_cons.mp hts
          have hm1 : t1 ∈ ownT ps := by rw [hT]; exact .head _
          have hm := mem_ownT hm1
          obtain ⟨k1, qs1, rfl⟩ := mem_ownT_node hm1
          refine iteT ⟨.ref p4, rfl, p4, _, 0, y, rfl, rfl, sqL (s5 _ _ upd_same), atI_nat (j := 0) rfl, ?_⟩
          cases a5 with
          | last h =>
            rw [hT] at h
            cases h
          | @more _ _ t' L' h hL' =>
            rw [hT] at h
            cases h
            refine ⟨ys ++ [.ref B3], Ld ++ [(k, ownB ps)], _, y, rfl, s5 _ _ (s4 _ _ h3F), eS.trans (s4.trans s5), (rw3.mono (Same.tupK s4)).mono (Same.tupK s5), .inr ⟨k1, qs1, L', (y1.same s4).same s5, a2.parts _ hm, ?_, ?_, hL', by rw [List.append_assoc]; rfl, by simp⟩⟩
            · have := part_len hm
              rw [btns_node] at a3
              omega
            · have := dep_mem hm
              rw [dep_node] at a4
              omega
end
end Ks
set_option maxRecDepth 100000
set_option maxHeartbeats 4000000
namespace Ks
open PySem PySem.Spec PyProof.Rows L2
/-! ### pairs_and_weights -/
theorem small64 {x : Int} (h0 : -1000 ≤ x) (h1 : x ≤ 1000) : -(2 ^ 64) < x ∧ x < 2 ^ 64 := by
  have e : (2 ^ 64 : Int) = 18446744073709551616 := by decide
  rw [e]
  omega
theorem lst_ne {H : Hp} {a b : Addr} {xs : List V} (h : H a = some (.lst xs)) (n : H b = none) : a ≠ b := ne_of_none h n
section
variable {P : Program} {w : World} {K : PySem.W.Frag} {mg : Str → Option Value} {base : Heap}
set_option maxHeartbeats 8000000 in
theorem ok_paws (B : Bi mg) (D : Df K mg "pairs_and_weights" (tp 22) ["rows"]) (cW : Cal P w K mg base 1 "weight_over" sp_weight_over) : Cal P w K mg base 2 "pairs_and_weights" sp_paws := by
  refine D.cal sc_paws (fun vs H Q E h => ?_) (fun f cdv A outer s H vs Q E hr h => ?_)
  · obtain ⟨r, us, L, rfl, _⟩ := h
    rfl
  have nd := sc_paws.nd
  obtain ⟨r, us, L, rfl, hr0, hrw, hok, hlen, q⟩ := h
  refine ⟨_, pss_cons (ps_asg (pe_ix ix_tup (pv 0) (pe_un un_neg pe_int) (fun _ _ => rfl)) (pg_tup rfl (pgs_cons (pg_name (i := 1) nd rfl (.inl rfl)) (pgs_cons (pg_name (i := 2) nd rfl (.inl rfl)) pgs_nil))))
    (pss_cons (ps_par (i := 3) (j := 4) rfl nd rfl rfl (by decide) rfl rfl (pa_cons (pe_lst (pa_cons (pe_tup (pa_cons (pv 1) (pa_cons (pe_op op_add (pe_op op_sub (p_len B.len (pv 2)) (pv 1)) pe_int) pa_nil))) pa_nil)) (pa_cons (pe_lst (pa_cons pe_int pa_nil)) pa_nil)) (by rfl))
    (pss_cons (ps_for PassesOwn.never rfl (pi_tup (pe_back (pv 0))) (pg_tup rfl (pgs_cons (pg_name (i := 5) nd rfl (.inl rfl)) (pgs_cons (pg_name (i := 6) nd rfl (.inl rfl)) pgs_nil)))
      (pss_cons (ps_asg (pe_tup (pa_cons (pe_ix ix_list (pv 3) (pe_un un_neg pe_int) (fun _ _ => rfl)) (pa_cons (p_len B.len (pv 6)) pa_nil)))
          (pg_tup rfl (pgs_cons (pg_tup rfl (pgs_cons (pg_name (i := 7) nd rfl (.inl rfl)) (pgs_cons (pg_name (i := 8) nd rfl (.inl rfl)) pgs_nil))) (pgs_cons (pg_name (i := 9) nd rfl (.inl rfl)) pgs_nil))))
      (pss_cons (ps_set (i := 10) nd rfl (.inl rfl) (pc cW hr (by decide) (pa_cons (pv 5) (pa_cons (pv 9) (pa_cons (pv 7) (pa_cons (pv 8) pa_nil))))))
      (pss_cons (ps_expr (pe_bm PySem.F.plainAttrs_list PySem.F.slot_list_append PySem.F.type_list_append mt_append (pv 3) (pa_cons (pe_tup (pa_cons
          (pe_op op_add (pv 7) (pe_op op_mul (pe_op op_sub (pv 5) pe_int) (pv 10))) (pa_cons (pe_op op_add (pv 8) (pe_op op_mul (pe_op op_add (pe_op op_sub (pv 9) (pv 5)) pe_int) (pv 10))) pa_nil))) pa_nil)))
      (pss_one (ps_expr (pe_bm PySem.F.plainAttrs_list PySem.F.slot_list_append PySem.F.type_list_append mt_append (pv 4) (pa_cons (pv 10) pa_nil))))))))
    (pss_one (ps_ret (pe_tup (pa_cons (pe_revL (pv 3)) (pa_cons (pe_revL (pv 4)) pa_nil))))))), ?_⟩
  have hul := hrw.len
  have hLn : L ≠ [] := by
    intro e
    subst e
    exact hok
  have hpos : 0 < L.length := List.length_pos_iff.mpr hLn
  obtain ⟨n, hn⟩ : ∃ n, L.length = n + 1 := ⟨L.length - 1, by omega⟩
  -- the last row
  obtain ⟨kl, bl, hl⟩ : ∃ k b, L[n]'(by omega) = (k, b) := ⟨_, _, rfl⟩
  have hl? : L[n]? = some (kl, bl) := by rw [List.getElem?_eq_getElem (by omega), hl]
  obtain ⟨a, c, ga, h1, h2⟩ := hrw.get hl?
  have hlast : atI us (-1) = some (.ref a) := by
    have e : us = us.take n ++ [.ref a] := by
      have hn' : n < us.length := by omega
      have := List.take_succ_eq_append_getElem hn'
      rw [List.take_of_length_le (by omega)] at this
      rw [List.getElem?_eq_getElem hn'] at ga
      rw [Option.some.inj ga] at this
      exact this
    rw [e]
    exact atI_last _ _
  refine ⟨.ref r, rfl, 1, rfl, r, us, -1, .ref a, rfl, rfl, sqT hr0, hlast, a, _, rfl, sqT h1, rfl, _, _, rfl, _, _, rfl, rfl, ?_⟩
  refine ⟨.int kl, rfl, .ref c, rfl, c, _, rfl, .inr (sqT h2), .int kl, rfl, _, _, rfl, rfl, _, _, rfl, rfl, (by show 2 ≤ sizeLine; decide), fun T1 hT1 => ?_⟩
  have s1 := same_new hT1 (.tup [.int kl, .int (((bl.map V.int).length : Int) - kl + 1)])
  refine ⟨(by show 1 ≤ sizeLine; decide), fun F hF => ?_⟩
  have s2 := same_new hF (.lst [.ref T1])
  refine ⟨(by show 1 ≤ sizeLine; decide), fun W hW => ⟨_, _, rfl, ?_⟩⟩
  have s3 := same_new hW (.lst [.int 1])
  have hFW : F ≠ W := lst_ne upd_same hW
  have s12 := s1.trans s2
  have hF0 : H F = none := Same.free s1 hF
  have hW0 : H W = none := Same.free s12 hW
  generalize eH1 : upd (upd (upd H T1 (.tup [.int kl, .int (((bl.map V.int).length : Int) - kl + 1)])) F (.lst [.ref T1])) W (.lst [.int 1]) = H1
  have sH1 : Same H H1 := by
    rw [← eH1]
    exact s12.trans s3
  have f1 : H1 F = some (.lst [.ref T1]) := by
    rw [← eH1]
    exact s3 _ _ upd_same
  have w1 : H1 W = some (.lst [.int 1]) := by
    rw [← eH1]
    exact upd_same
  have t1 : H1 T1 = some (.tup [.int kl, .int (((bl.map V.int).length : Int) - kl + 1)]) := by
    rw [← eH1]
    exact s3 _ _ (s2 _ _ upd_same)
  rw [List.length_map] at t1
  clear eH1
  refine ⟨.ref r, rfl, r, us, rfl, sqT (sH1 _ _ hr0), by omega, fun R hR => ⟨R, rfl, ⟨us.dropLast.reverse, sqT upd_same⟩, ?_⟩⟩
  have s4 := same_new hR (.tup us.dropLast.reverse)
  have hxl : us.dropLast.reverse.length = n := by rw [List.length_reverse, List.length_dropLast]; omega
  have hdrop : L.drop n = [(kl, bl)] := by
    rw [List.drop_eq_getElem_cons (by omega), hl, List.drop_of_length_le (by omega)]
  let Pv : Nat → L2.St → Hp → Prop := fun i σ H' => ∃ ps o1 o2 o5 o6 o7 o8 o9 o10, σ = [some (.ref r), o1, o2, some (.ref F), some (.ref W), o5, o6, o7, o8, o9, o10] ∧ H' F = some (.lst ps.reverse) ∧ PrsAt H' (pw (L.drop (n - i))) ps ∧
    H' W = some (.lst ((pw (L.drop (n - i))).map fun x => V.int x.w).reverse) ∧ Same H H' ∧ H' R = some (.tup us.dropLast.reverse)
  refine for_tup (xs := us.dropLast.reverse) Pv ⟨[.ref T1], _, _, _, _, _, _, _, _, rfl, s4 _ _ f1, ?_, ?_, sH1.trans s4, upd_same⟩ (fun i σ H' _ hp => ?_) (fun i x σ H' hx hp => ?_) (fun σ H' hp => ?_)
  · rw [Nat.sub_zero, hdrop, pw_one]
    exact ⟨T1, [], rfl, s4 _ _ t1, rfl⟩
  · rw [Nat.sub_zero, hdrop, pw_one]
    exact s4 _ _ w1
  · obtain ⟨ps, o1, o2, o5, o6, o7, o8, o9, o10, rfl, p1, p2, p3, p4, p5⟩ := hp
    exact sqT p5
  · obtain ⟨ps, o1, o2, o5, o6, o7, o8, o9, o10, rfl, p1, p2, p3, p4, p5⟩ := hp
    have hi : i < n := by
      have := (List.getElem?_eq_some_iff.mp hx).1
      omega
    obtain ⟨j, hj⟩ : ∃ j, n - i = j + 1 := ⟨n - i - 1, by omega⟩
    have hjL : j < L.length := by omega
    have hx' : us[j]? = some x := by
      rw [List.getElem?_reverse (by rw [List.length_dropLast]; omega), List.length_dropLast, List.getElem?_dropLast, if_pos (by omega)] at hx
      rw [show us.length - 1 - 1 - i = j by omega] at hx
      exact hx
    obtain ⟨kj, bj, hlj⟩ : ∃ k b, L[j] = (k, b) := ⟨_, _, rfl⟩
    have hlj? : L[j]? = some (kj, bj) := by rw [List.getElem?_eq_getElem hjL, hlj]
    obtain ⟨aj, cj, gj, hj1, hj2⟩ := hrw.get hlj?
    rw [hx'] at gj
    cases gj
    have hOkj := hok.all _ (List.mem_of_getElem? hlj?)
    have hbj := lv_len (List.mem_of_getElem? hlj?)
    have dj : L.drop j = (kj, bj) :: L.drop (j + 1) := by rw [List.drop_eq_getElem_cons hjL, hlj]
    have hne : L.drop (j + 1) ≠ [] := by
      intro e
      have := congrArg List.length e
      rw [List.length_drop] at this
      simp at this
      omega
    obtain ⟨l0, L0, hl0⟩ := List.exists_cons_of_ne_nil hne
    obtain ⟨p, Rr, hpw⟩ := pw_ne l0 L0
    rw [← hl0] at hpw
    have hpl := p2.len
    rw [pw_len, List.length_drop] at hpl
    have hLc := lvs_count fun l hl => (hok.all l hl).2.2
    have hbj' : bj.length ≤ (L.flatMap (·.2)).length := hbj
    have hw3 : ((pw (L.drop (n - i))).map fun x => V.int x.w).reverse.length ≤ 60 := by
      rw [List.length_reverse, List.length_map, pw_len, List.length_drop]
      omega
    rw [hj, hpw] at p2 p3 hw3
    obtain ⟨ap, u, rfl, q1, q2⟩ := p2
    have hO1 : 1 ≤ kj := hOkj.1
    have hO2 : kj ≤ (bj.length : Int) + 1 := hOkj.2.1
    refine ⟨aj, _, rfl, sqT (p4 _ _ hj1), rfl, _, _, rfl, _, _, rfl, rfl, ?_⟩
    refine ⟨.ref F, rfl, 1, rfl, F, _, -1, .ref ap, rfl, rfl, sqL p1, (by rw [List.reverse_cons]; exact atI_last _ _), .ref cj, rfl, cj, _, rfl, .inr (sqT (p4 _ _ hj2)), (by show 2 ≤ sizeLine; decide), fun T2 hT2 => ?_⟩
    have s5 := same_new hT2 (.tup [.ref ap, .int (((bj.map V.int).length : Nat) : Int)])
    refine ⟨T2, _, rfl, sqT upd_same, rfl, _, _, rfl, ap, _, rfl, sqT (s5 _ _ q1), rfl, _, _, rfl, _, _, rfl, rfl, _, _, rfl, rfl, ?_⟩
    have hml : (((bj.map V.int).length : Nat) : Int) = (bj.length : Int) := by rw [List.length_map]
    refine ⟨.int kj, rfl, _, rfl, .int p.a, rfl, .int p.b, rfl, kj, _, p.a, p.b, rfl, ?_⟩
    generalize eH2 : upd H' T2 (.tup [.ref ap, .int (((bj.map V.int).length : Nat) : Int)]) = H2
    rw [eH2] at s5
    clear eH2
    show _
    rw [hml]
    refine ⟨.ref F, rfl, .inl ⟨rfl, _, sqL (s5 _ _ p1)⟩, .int p.a, rfl, .int kj, rfl, _, _, rfl, rfl, _, rfl, _, _, rfl, rfl, .inl (small64 (by omega) (by omega)), _, _, rfl, rfl,
      .int p.b, rfl, _, rfl, .int kj, rfl, _, _, rfl, rfl, _, _, rfl, rfl, _, rfl, _, _, rfl, rfl, .inl (small64 (by omega) (by omega)), _, _, rfl, rfl, (by show 2 ≤ sizeLine; decide), fun T3 hT3 => ?_⟩
    have s6 := same_new hT3 (.tup [.int (p.a + (kj - 1) * wt kj (bj.length : Int) p.a p.b), .int (p.b + ((bj.length : Int) - kj + 1) * wt kj (bj.length : Int) p.a p.b)])
    have f3 : (upd H2 T3 (.tup [.int (p.a + (kj - 1) * wt kj (bj.length : Int) p.a p.b), .int (p.b + ((bj.length : Int) - kj + 1) * wt kj (bj.length : Int) p.a p.b)])) F = _ := s6 _ _ (s5 _ _ p1)
    have w3 : (upd H2 T3 (.tup [.int (p.a + (kj - 1) * wt kj (bj.length : Int) p.a p.b), .int (p.b + ((bj.length : Int) - kj + 1) * wt kj (bj.length : Int) p.a p.b)])) W = _ := s6 _ _ (s5 _ _ p3)
    have t3 : (upd H2 T3 (.tup [.int (p.a + (kj - 1) * wt kj (bj.length : Int) p.a p.b), .int (p.b + ((bj.length : Int) - kj + 1) * wt kj (bj.length : Int) p.a p.b)])) T3 = _ := upd_same
    have s7 := p4.trans (s5.trans s6)
    have q2' := q2.mono (Same.tupK (s5.trans s6))
    have q1' := s6 _ _ (s5 _ _ q1)
    have p5' := s6 _ _ (s5 _ _ p5)
    refine ⟨F, _, .ref T3, rfl, rfl, f3, lt_size (by rw [List.length_reverse]; omega), ?_⟩
    clear s6
    revert f3 w3 t3 s7 q2' q1' p5'
    generalize upd H2 T3 (.tup [.int (p.a + (kj - 1) * wt kj (bj.length : Int) p.a p.b), .int (p.b + ((bj.length : Int) - kj + 1) * wt kj (bj.length : Int) p.a p.b)]) = H3
    intro f3 w3 t3 s7 q2' q1' p5'
    have tk1 : TupK H3 (upd H3 F (.lst ((V.ref ap :: u).reverse ++ [V.ref T3]))) := tupK_lst f3
    have w4 : (upd H3 F (.lst ((V.ref ap :: u).reverse ++ [V.ref T3]))) W = some (.lst ((p :: Rr).map fun x => V.int x.w).reverse) := by
      rw [upd_ne (Ne.symm hFW)]
      exact w3
    refine ⟨.ref W, rfl, .inl ⟨rfl, _, sqL w4⟩, _, rfl, W, _, _, rfl, rfl, w4, lt_size (by omega), ?_⟩
    have tk2 := tk1.trans (tupK_lst (ys := ((p :: Rr).map fun x => V.int x.w).reverse) (o := .lst (((p :: Rr).map fun x => V.int x.w).reverse ++ [V.int (wt kj (bj.length : Int) p.a p.b)])) w4)
    have hji : n - (i + 1) = j := by omega
    have hpw2 : pw (L.drop (n - (i + 1))) = ⟨p.a + (kj - 1) * wt kj bj.length p.a p.b, p.b + ((bj.length : Int) - kj + 1) * wt kj bj.length p.a p.b, wt kj bj.length p.a p.b⟩ :: p :: Rr := by
      rw [hji, dj]
      exact pw_more kj bj hpw
    refine ⟨.ref T3 :: .ref ap :: u, _, _, _, _, _, _, _, _, rfl, ?_, ?_, ?_, ?_, ?_⟩
    · rw [upd_ne hFW, upd_same]
      simp
    · rw [hpw2]
      exact ⟨T3, _, rfl, tk2 _ _ t3, ap, u, rfl, tk2 _ _ q1', q2'.mono tk2⟩
    · rw [hpw2, upd_same]
      simp
    · exact Same.upd' (Same.upd' s7 hF0) hW0
    · exact tk2 _ _ p5'
  · obtain ⟨ps, o1, o2, o5, o6, o7, o8, o9, o10, rfl, p1, p2, p3, p4, p5⟩ := hp
    rw [hxl, Nat.sub_self, List.drop_zero] at p2 p3
    refine ⟨.ref F, rfl, F, ps.reverse, rfl, sqL p1, fun P1 hP1 => ?_⟩
    have s5 := same_new hP1 (.lst ps.reverse.reverse)
    refine ⟨.ref W, rfl, W, _, rfl, sqL (s5 _ _ p3), fun P2 hP2 => ?_⟩
    have s6 := same_new hP2 (.lst ((pw L).map fun x => V.int x.w).reverse.reverse)
    refine ⟨(by show 2 ≤ sizeLine; decide), fun P3 hP3 => ?_⟩
    have s7 := same_new hP3 (.tup [.ref P1, .ref P2])
    refine q P3 P1 P2 ps _ (p4.trans (s5.trans (s6.trans s7))) upd_same ?_ ((p2.mono (Same.tupK (s5.trans (s6.trans s7))))) ?_
    · exact (s7 _ _ (s6 _ _ upd_same)).trans (by rw [List.reverse_reverse])
    · exact (s7 _ _ upd_same).trans (by rw [List.reverse_reverse])
end
end Ks
set_option maxRecDepth 100000
set_option maxHeartbeats 4000000
namespace Ks
open PySem PySem.Spec PyProof.Rows L2
/-! ### swap_of, need_nest, levels, pair -/
theorem sc_swap_of : FnScope ["tree", "plain", "way"] ["tree"] (defScope (tp 41)) := ⟨rfl, rfl, rfl, by decide +kernel, rfl, by decide +kernel, by decide +kernel⟩
theorem sc_need : FnScope ["tree", "swap"] ["tree"] (defScope (tp 43)) := ⟨rfl, rfl, rfl, by decide +kernel, rfl, by decide +kernel, by decide +kernel⟩
theorem sc_levels : FnScope ["tree"] ["tree"] (defScope (tp 44)) := ⟨rfl, rfl, rfl, by decide +kernel, rfl, by decide +kernel, by decide +kernel⟩
theorem sc_pair : FnScope ["tree", "pairs", "weights"] ["tree"] (defScope (tp 45)) := ⟨rfl, rfl, rfl, by decide +kernel, rfl, by decide +kernel, by decide +kernel⟩
structure Nest (H : Hp) (t : Tr) (v : V) : Prop where
  at' : TrAt H t v
  nst : Nst t
  few : (btns t).length ≤ 60
  dp : dep t < 16
theorem Nest.mono {H H' : Hp} (e : TupK H H') {t : Tr} {v : V} (h : Nest H t v) : Nest H' t v := ⟨h.at'.mono e, h.nst, h.few, h.dp⟩
theorem Nest.ok {H : Hp} {t : Tr} {v : V} (h : Nest H t v) {L : List Lv} (hL : Lvs (red t) L) : Ok L ∧ (L.flatMap (·.2)).length ≤ 60 ∧ (L.flatMap (·.2)).Perm (btns t) := by
  obtain ⟨L', h1, h2⟩ := lvs_of (red_Red h.nst)
  rw [lvs_uniq h1 hL] at h2
  have p := (lvs_btns hL).symm.trans (red_btns t)
  refine ⟨h2, ?_, p⟩
  rw [p.length_eq]
  exact h.few
def sp_none : Sp := fun vs H Q _ => ∃ (v : V) (t : Tr), vs = [v] ∧ Nest H t v ∧ ∀ H2, Same H H2 → Q .non H2
def sp_levels : Sp := fun vs H Q _ => ∃ (v : V) (t : Tr) (L : List Lv), vs = [v] ∧ Nest H t v ∧ Lvs (red t) L ∧ ∀ p us H2, Same H H2 → H2 p = some (.tup us) → RwsAt H2 L us → Q (.ref p) H2
def sp_pair : Sp := fun vs H Q _ => ∃ (v : V) (t : Tr) (L : List Lv), vs = [v] ∧ Nest H t v ∧ Lvs (red t) L ∧ ∀ T p R H2, pw L = p :: R → Same H H2 → H2 T = some (.tup [.int p.a, .int p.b]) → Q (.ref T) H2
section
variable {P : Program} {w : World} {K : PySem.W.Frag} {mg : Str → Option Value} {base : Heap}
theorem ok_swap_of (D : Df K mg "swap_of" (tp 41) ["tree"]) (cT : Cal P w K mg base 22 "told" (sp_told 16)) (cF : Cal P w K mg base 18 "fork_from" (sp_fork 16)) : Cal P w K mg base 23 "swap_of" sp_none := by
  refine D.cal sc_swap_of (fun vs H Q E h => ?_) (fun f cdv A outer s H vs Q E hr h => ?_)
  · obtain ⟨v, t, rfl, _⟩ := h
    rfl
  have nd := sc_swap_of.nd
  obtain ⟨v, t, rfl, ht, q⟩ := h
  refine ⟨_, pss_cons (ps_set (i := 1) nd rfl (.inl rfl) (pc cT hr (by decide) (pa_cons (pv 0) pa_nil)))
    (pss_cons (ps_set (i := 2) nd rfl (.inl rfl) (pc cF hr (by decide) (pa_cons (pv 1) (pa_cons (pe_tup pa_nil) pa_nil))))
    (pss_cons (ps_if (pt_cmpR op_isN1 (pv 2) pe_non (nomark _)) (pss_one (ps_ret pe_non)) pss_nil) pss_never)), ?_⟩
  refine ⟨v, rfl, v, t, rfl, ht.at', ht.nst, Nat.le_trans ht.few (by decide), ht.dp, fun x H2 e2 hx => ?_⟩
  refine ⟨x, rfl, by decide, fun T hT => ?_⟩
  have s1 := same_new hT (.tup [])
  have hd := red_dep t
  refine ⟨x, red t, T, [], rfl, hx.same s1, red_Red ht.nst, upd_same, by decide, Nat.lt_of_le_of_lt hd ht.dp, fun H3 e3 => ?_⟩
  exact ⟨.non, rfl, rfl, _, rfl, iteT (q H3 (e2.trans (s1.trans e3)))⟩
theorem ok_need (D : Df K mg "need_nest" (tp 43) ["tree"]) (cS : Cal P w K mg base 23 "swap_of" sp_none) : Cal P w K mg base 24 "need_nest" sp_none := by
  refine D.cal sc_need (fun vs H Q E h => ?_) (fun f cdv A outer s H vs Q E hr h => ?_)
  · obtain ⟨v, t, rfl, _⟩ := h
    rfl
  have nd := sc_need.nd
  obtain ⟨v, t, rfl, ht, q⟩ := h
  refine ⟨_, pss_cons (ps_set (i := 1) nd rfl (.inl rfl) (pc cS hr (by decide) (pa_cons (pv 0) pa_nil)))
    (pss_one (ps_if (pt_cmpR op_notN1 (pv 1) pe_non (nomark _)) pss_never pss_nil)), ?_⟩
  exact ⟨v, rfl, v, t, rfl, ht, fun H2 e2 => ⟨.non, rfl, rfl, _, rfl, iteF (q H2 e2)⟩⟩
theorem ok_levels (B : Bi mg) (D : Df K mg "levels" (tp 44) ["tree"]) (cN : Cal P w K mg base 24 "need_nest" sp_none) (cL : Cal P w K mg base 23 "level_rows" sp_level_rows) : Cal P w K mg base 25 "levels" sp_levels := by
  refine D.cal sc_levels (fun vs H Q E h => ?_) (fun f cdv A outer s H vs Q E hr h => ?_)
  · obtain ⟨v, t, L, rfl, _⟩ := h
    rfl
  have nd := sc_levels.nd
  obtain ⟨v, t, L, rfl, ht, hL, q⟩ := h
  refine ⟨_, pss_cons (ps_expr (pc cN hr (by decide) (pa_cons (pv 0) pa_nil)))
    (pss_one (ps_ret (pe_callTy call_tuple_of (by rfl) B.tuple (by decide +kernel) (pa_cons (pc cL hr (by decide) (pa_cons (pv 0) pa_nil)) pa_nil)))), ?_⟩
  refine ⟨v, rfl, v, t, rfl, ht, fun H2 e2 => ⟨v, rfl, v, t, L, rfl, ht.at'.same e2, ht.nst, ht.few, ht.dp, hL, fun p us H3 e3 hp hw => ?_⟩⟩
  refine ⟨p, us, rfl, .inl ⟨sqL hp, fun T hT => ?_⟩⟩
  have s1 := same_new hT (.tup us)
  exact q T us _ (e2.trans (e3.trans s1)) upd_same (hw.mono (Same.tupK s1))
theorem ok_pair (B : Bi mg) (D : Df K mg "pair" (tp 45) ["tree"]) (cL : Cal P w K mg base 25 "levels" sp_levels) (cP : Cal P w K mg base 2 "pairs_and_weights" sp_paws) : CalK P w K mg base 26 "pair" "tree" sp_pair := by
  obtain ⟨f, fd, F, m, b⟩ := D.ex
  refine ⟨f, fd, F.ok sc_pair (fun vs H Q E h => ?_) fun cdv A outer s H vs Q E hr h => ?_, m, F.kp, b, ?_⟩
  · obtain ⟨v, t, L, rfl, _⟩ := h
    rfl
  · have nd := sc_pair.nd
    obtain ⟨v, t, L, rfl, ht, hL, q⟩ := h
    obtain ⟨hok, hfew, _⟩ := ht.ok hL
    refine ⟨_, pss_cons (ps_asg (pc cP hr (by decide) (pa_cons (pc cL hr (by decide) (pa_cons (pv 0) pa_nil)) pa_nil)) (pg_tup rfl (pgs_cons (pg_name (i := 1) nd rfl (.inl rfl)) (pgs_cons (pg_name (i := 2) nd rfl (.inl rfl)) pgs_nil))))
      (pss_one (ps_ret (pe_ix ix_list (pv 1) pe_int (fun _ _ => rfl)))), ?_⟩
    refine ⟨v, rfl, v, t, L, rfl, ht, hL, fun p us H2 e2 hp hw => ⟨p, us, L, rfl, hp, hw, hok, hfew, fun T p1 q1 ps H3 e3 h1 h2 h3 h4 => ?_⟩⟩
    obtain ⟨l, L', rfl⟩ := hL.ne
    obtain ⟨p0, R, e⟩ := pw_ne l L'
    rw [e] at h3
    obtain ⟨a, u, rfl, g1, g2⟩ := h3
    refine ⟨T, _, rfl, sqT h1, rfl, _, _, rfl, _, _, rfl, rfl, .ref p1, rfl, p1, _, 0, .ref a, rfl, rfl, sqL h2, atI_nat (j := 0) rfl, ?_⟩
    exact q a p0 R H3 e (e2.trans e3) g1
  · obtain ⟨oc, od, kV, doc, pm, an, cdv, ct, osl, efd, _, _⟩ := F.ex
    subst efd
    intro u
    rfl
end
end Ks
set_option maxRecDepth 100000
set_option maxHeartbeats 4000000
namespace Ks
open PySem PySem.Spec PyProof.Rows L2
/-! ### scale_of -/
theorem sc_scale : FnScope ["tree", "rows", "pairs", "weights", "found", "bound", "buttons", "weight", "button"] ["tree"] (defScope (tp 46)) := ⟨rfl, rfl, rfl, by decide +kernel, rfl, by decide +kernel, by decide +kernel⟩
/-- pairs of ints -/
def RsAt (H : Hp) : List (Int × Int) → List V → Prop
  | [], us => us = []
  | r :: R, us => ∃ a u, us = .ref a :: u ∧ H a = some (.tup [.int r.1, .int r.2]) ∧ RsAt H R u
theorem RsAt.mono {H H' : Hp} (e : TupK H H') : ∀ {L : List (Int × Int)} {us : List V}, RsAt H L us → RsAt H' L us
  | [], _, h => h
  | p :: L, _, ⟨a, u, e1, h1, h3⟩ => ⟨a, u, e1, e _ _ h1, h3.mono e⟩
theorem RsAt.len {H : Hp} : ∀ {L : List (Int × Int)} {us : List V}, RsAt H L us → us.length = L.length
  | [], us, h => by
    have h : us = [] := h
    subst h
    rfl
  | p :: L, us, ⟨a, u, e1, h1, h3⟩ => by rw [e1, List.length_cons, List.length_cons, h3.len]
theorem RsAt.app {H : Hp} : ∀ {L M : List (Int × Int)} {us vs : List V}, RsAt H L us → RsAt H M vs → RsAt H (L ++ M) (us ++ vs)
  | [], M, us, vs, h, h' => by
    have h : us = [] := h
    subst h
    exact h'
  | p :: L, M, us, vs, ⟨a, u, e1, h1, h3⟩, h' => ⟨a, u ++ vs, by rw [e1]; rfl, h1, h3.app h'⟩
theorem RsAt.get {H : Hp} : ∀ {L : List (Int × Int)} {us : List V}, RsAt H L us → ∀ {i : Nat} {l : Int × Int}, L[i]? = some l → ∃ a, us[i]? = some (.ref a) ∧ H a = some (.tup [.int l.1, .int l.2])
  | [], us, h, i, l, e => by simp at e
  | p :: L, us, ⟨a, u, e1, h1, h3⟩, i, l, e => by
    subst e1
    cases i with
    | zero =>
      have e : p = l := by simpa using e
      subst e
      exact ⟨a, rfl, h1⟩
    | succ i => exact h3.get (i := i) (by simpa using e)
/-- what a pair in the heap says -/
def prOf (H : Hp) (v : V) : Int × Int :=
  match v with
  | .ref a => match H a with
    | some (.tup [.int i, .int j]) => (i, j)
    | _ => (0, 0)
  | _ => (0, 0)
theorem RsAt.map {H : Hp} : ∀ {L : List (Int × Int)} {us : List V}, RsAt H L us → us.map (prOf H) = L
  | [], us, h => by
    have h : us = [] := h
    subst h
    rfl
  | p :: L, us, ⟨a, u, e1, h1, h3⟩ => by
    subst e1
    rw [List.map_cons, h3.map]
    show (match H a with | some (.tup [.int i, .int j]) => (i, j) | _ => (0, 0)) :: L = _
    rw [h1]
theorem RsAt.each {H : Hp} : ∀ {L : List (Int × Int)} {us : List V}, RsAt H L us → ∀ x ∈ us, ∃ t, x = V.ref t ∧ H t = some (.tup [.int (prOf H x).1, .int (prOf H x).2])
  | [], us, h, x, hx => by
    have h : us = [] := h
    subst h
    cases hx
  | p :: L, us, ⟨a, u, e1, h1, h3⟩, x, hx => by
    subst e1
    rcases List.mem_cons.mp hx with rfl | hx
    · refine ⟨a, rfl, ?_⟩
      have e : prOf H (.ref a) = p := by
        show (match H a with | some (.tup [.int i, .int j]) => (i, j) | _ => (0, 0)) = p
        rw [h1]
      rw [e]
      exact h1
    · exact h3.each x hx
theorem RsAt.of {H : Hp} : ∀ {us : List V}, (∀ x ∈ us, ∃ t, x = V.ref t ∧ H t = some (.tup [.int (prOf H x).1, .int (prOf H x).2])) → RsAt H (us.map (prOf H)) us
  | [], _ => rfl
  | x :: u, h => by
    obtain ⟨t, rfl, e⟩ := h x (.head _)
    exact ⟨t, u, rfl, e, RsAt.of fun y hy => h y (.tail _ hy)⟩
theorem wl_take : ∀ {L : List Lv} {R : List Pw} {i : Nat} {l : Lv} {p : Pw}, L[i]? = some l → R[i]? = some p → wl (L.take (i + 1)) (R.take (i + 1)) = wl (L.take i) (R.take i) ++ l.2.map fun b => (b, p.w)
  | [], R, i, l, p, h, _ => by simp at h
  | _ :: _, [], i, l, p, _, h => by simp at h
  | (k, bs) :: L, q :: R, 0, l, p, h1, h2 => by
    have h1 : (k, bs) = l := by simpa using h1
    have h2 : q = p := by simpa using h2
    subst h1 h2
    simp [wl]
  | (k, bs) :: L, q :: R, i + 1, l, p, h1, h2 => by
    have ih := wl_take (L := L) (R := R) (i := i) (by simpa using h1) (by simpa using h2)
    rw [List.take_succ_cons, List.take_succ_cons, wl, ih, List.take_succ_cons, List.take_succ_cons, wl, List.append_assoc]
def sp_scale : Sp := fun vs H Q _ => ∃ (v : V) (t : Tr) (L : List Lv), vs = [v] ∧ Nest H t v ∧ (btns t).Nodup ∧ Lvs (red t) L ∧ ∀ T S p R rs us H2, pw L = p :: R → Same H H2 → Rows L rs → H2 T = some (.tup [.ref S, .int p.a]) → H2 S = some (.tup us) → RsAt H2 rs us → Q (.ref T) H2
/-- from what sorted gives to the rows -/
theorem rows_of {H : Hp} {L : List Lv} {us ys : List V} (h : RsAt H (wls L) us) (nd : (L.flatMap (·.2)).Nodup) (hs : SrtO.Srtd (ltP (prOf H)) ys) (hp : ys.Perm us) : Rows L (ys.map (prOf H)) ∧ RsAt H (ys.map (prOf H)) ys := by
  have hm : (ys.map (prOf H)).Perm (wls L) := by
    have := hp.map (prOf H)
    rw [h.map] at this
    exact this
  refine ⟨⟨hm, ?_⟩, RsAt.of fun x hx => h.each x (hp.mem_iff.mp hx)⟩
  have nd1 : ((ys.map (prOf H)).map (·.1)).Nodup := by
    refine (hm.map (·.1)).nodup_iff.mpr ?_
    rw [wls_fst]
    exact nd
  have le : (ys.map (prOf H)).Pairwise fun x y => x.1 ≤ y.1 := by
    refine List.pairwise_map.mpr (hs.imp fun {x y} h => ?_)
    have := SrtO.lexB_no.mp h
    omega
  have ne : (ys.map (prOf H)).Pairwise fun x y => x.1 ≠ y.1 := List.pairwise_map.mp nd1
  exact (le.and ne).imp fun h => by omega
section
variable {P : Program} {w : World} {K : PySem.W.Frag} {mg : Str → Option Value} {base : Heap}
set_option maxHeartbeats 8000000 in
theorem ok_scale (B : Bi mg) (D : Df K mg "scale_of" (tp 46) ["tree"]) (cL : Cal P w K mg base 25 "levels" sp_levels) (cP : Cal P w K mg base 2 "pairs_and_weights" sp_paws) : CalK P w K mg base 26 "scale_of" "tree" sp_scale := by
  obtain ⟨f, fd, F, m, b⟩ := D.ex
  refine ⟨f, fd, F.ok sc_scale (fun vs H Q E h => ?_) fun cdv A outer s H vs Q E hr h => ?_, m, F.kp, b, ?_⟩
  · obtain ⟨v, t, L, rfl, _⟩ := h
    rfl
  · have nd := sc_scale.nd
    obtain ⟨v, t, L, rfl, ht, hnd, hL, q⟩ := h
    obtain ⟨hok, hfew, hperm⟩ := ht.ok hL
    refine ⟨_, pss_cons (ps_set (i := 1) nd rfl (.inl rfl) (pc cL hr (by decide) (pa_cons (pv 0) pa_nil)))
      (pss_cons (ps_asg (pc cP hr (by decide) (pa_cons (pv 1) pa_nil)) (pg_tup rfl (pgs_cons (pg_name (i := 2) nd rfl (.inl rfl)) (pgs_cons (pg_name (i := 3) nd rfl (.inl rfl)) pgs_nil))))
      (pss_cons (ps_set (i := 4) nd rfl (.inl rfl) (pe_lst pa_nil))
      (pss_cons (ps_for PassesOwn.never rfl (pi_zipM (by rfl) B.zip (pa_cons (pv 1) (pa_cons (pv 3) pa_nil)))
        (pg_tup rfl (pgs_cons (pg_tup rfl (pgs_cons (pg_name (i := 5) nd rfl (.inl rfl)) (pgs_cons (pg_name (i := 6) nd rfl (.inl rfl)) pgs_nil))) (pgs_cons (pg_name (i := 7) nd rfl (.inr rfl)) pgs_nil)))
        (pss_one (ps_expr (pe_bm PySem.F.plainAttrs_list PySem.F.slot_list_extend PySem.F.type_list_extend mt_extend (pv 4) (pa_cons
          (pe_lc (own := [("button", 8)]) (g := gName 8) rfl nd (pi_tup (pv 6)) (blkOk_by (N := ["tree", "rows", "pairs", "weights", "found", "bound", "buttons", "weight", "button"]) (sc := defScope (tp 46)) (by decide +kernel))
            (fun _ _ _ _ _ => pg_name (i := 8) nd rfl (Or.inl rfl)) (fun _ _ _ _ _ => pts_nil) (fun _ _ _ _ _ => pe_tup (pa_cons (pv 8) (pa_cons (pv 7) pa_nil)))) pa_nil)))))
      (pss_one (ps_ret (pe_tup (pa_cons (pe_callTy call_tuple_of (by rfl) B.tuple (by decide +kernel) (pa_cons (pe_callB cr_sortedPO (by rfl) B.sorted (by decide +kernel) (pa_cons (pv 4) pa_nil)) pa_nil))
        (pa_cons (pe_ix ix_tup (pe_ix ix_list (pv 2) pe_int (fun _ _ => rfl)) pe_int (fun _ _ => rfl)) pa_nil)))))))), ?_⟩
    refine ⟨v, rfl, v, t, L, rfl, ht, hL, fun r us H2 e2 hr0 hrw => ⟨.ref r, rfl, r, us, L, rfl, hr0, hrw, hok, hfew, fun T p1 q1 ps H3 e3 h1 h2 h3 h4 => ?_⟩⟩
    refine ⟨T, _, rfl, sqT h1, rfl, _, _, rfl, _, _, rfl, rfl, by decide, fun F hF => ?_⟩
    have s1 := same_new hF (.lst [])
    have e3' := e2.trans e3
    have hF0 := Same.free e3' hF
    have ul := hrw.len
    have hr3 := e3 _ _ hr0
    have hrw3 := hrw.mono (Same.tupK e3)
    have zl : us.length = ((pw L).map fun x => V.int x.w).length := by rw [List.length_map, pw_len, ul]
    have hLc := lvs_count fun l hl => (hok.all l hl).2.2
    refine ⟨.ref r, rfl, .ref q1, rfl, r, q1, us, _, rfl, sqT (s1 _ _ hr3), sqL (s1 _ _ h4), ?_⟩
    let Pv : Nat → L2.St → Hp → Prop := fun i σ H' => ∃ ys o5 o6 o7 o8, σ = [some v, some (.ref r), some (.ref p1), some (.ref q1), some (.ref F), o5, o6, o7, o8] ∧ H' F = some (.lst ys) ∧ Same H3 H' ∧ RsAt H' (wl (L.take i) ((pw L).take i)) ys
    refine for_it (walk_zipM (K := K) (a := r) (b := q1) zl) Pv ⟨[], _, _, _, _, rfl, upd_same, s1, rfl⟩ (fun i σ H' _ hp => ?_) (fun i x σ H' H'' hi hp hy => ?_) (fun σ H' hp => ?_)
    · obtain ⟨ys, o5, o6, o7, o8, rfl, z1, z2, z3⟩ := hp
      exact ⟨sqT (z2 _ _ hr3), sqL (z2 _ _ h4)⟩
    · obtain ⟨ys, o5, o6, o7, o8, rfl, z1, z2, z3⟩ := hp
      obtain ⟨T2, x1, x2, rfl, hT2, rfl, y1, y2⟩ := hy
      have hiL : i < L.length := by omega
      obtain ⟨k, bs, hl⟩ : ∃ k b, L[i] = (k, b) := ⟨_, _, rfl⟩
      have hl? : L[i]? = some (k, bs) := by rw [List.getElem?_eq_getElem hiL, hl]
      obtain ⟨a, c, ga, g1, g2⟩ := hrw3.get hl?
      rw [y1] at ga
      cases ga
      have hiw : i < (pw L).length := by rw [pw_len]; exact hiL
      have hw? : (pw L)[i]? = some (pw L)[i] := List.getElem?_eq_getElem hiw
      rw [List.getElem?_map, hw?] at y2
      have y2 : V.int (pw L)[i].w = x2 := by simpa using y2
      subst y2
      generalize (pw L)[i] = pp at *
      have s2 := same_new hT2 (.tup [.ref a, .int pp.w])
      have z2' := z2.trans s2
      refine ⟨T2, _, rfl, sqT upd_same, rfl, _, _, rfl, a, _, rfl, sqT (z2' _ _ g1), rfl, _, _, rfl, _, _, rfl, rfl, _, _, rfl, rfl, ?_⟩
      have hbl := lv_len (List.mem_of_getElem? hl?)
      have hbl : bs.length ≤ (L.flatMap (·.2)).length := hbl
      have hyl := z3.len
      have hsum : (wl (L.take i) ((pw L).take i)).length + bs.length ≤ 60 := by
        have e : wl (L.take (i + 1)) ((pw L).take (i + 1)) = wl (L.take i) ((pw L).take i) ++ bs.map fun b => (b, pp.w) := wl_take hl? hw?
        have e1 := congrArg (List.map (·.1)) e
        rw [wl_fst _ _ (by rw [List.length_take, List.length_take, pw_len])] at e1
        have e2 := congrArg List.length e1
        rw [List.length_map, List.length_append, List.length_map] at e2
        have e3 : ((L.take (i + 1)).flatMap (·.2)).length ≤ (L.flatMap (·.2)).length := by
          conv => rhs; rw [← List.take_append_drop (i + 1) L, List.flatMap_append, List.length_append]
          omega
        omega
      refine ⟨.ref F, rfl, .inl ⟨rfl, _, sqL (s2 _ _ z1)⟩, .ref c, rfl, c, rfl, ⟨_, sqT (z2' _ _ g2)⟩, fun D hD => ?_⟩
      have s3 := same_new hD (.lst [])
      have hDH := hD
      generalize eHb : upd H' T2 (.tup [.ref a, .int pp.w]) = Hb at *
      refine lc_tup (xs := bs.map V.int) (fun j H' => ∃ zs, H' D = some (.lst zs) ∧ Same Hb H' ∧ RsAt H' ((bs.take j).map fun b => (b, pp.w)) zs) ⟨[], upd_same, s3, rfl⟩ (fun j H5 _ hp => ?_) (fun j x H5 hx hp => ?_) (fun H5 hp => ?_)
      · obtain ⟨zs, d1, d2, d3⟩ := hp
        exact sqT (d2 _ _ (z2' _ _ g2))
      · obtain ⟨zs, d1, d2, d3⟩ := hp
        rw [List.getElem?_map] at hx
        obtain ⟨b, hb, rfl⟩ := Option.map_eq_some_iff.mp hx
        have hj : j < bs.length := (List.getElem?_eq_some_iff.mp hb).1
        have hb' : bs[j] = b := (List.getElem?_eq_some_iff.mp hb).2
        have hzl := d3.len
        rw [List.length_map, List.length_take] at hzl
        refine ⟨rfl, .int b, rfl, .int pp.w, rfl, (by show 2 ≤ sizeLine; decide), fun T4 hT4 => ?_⟩
        have s4 := same_new hT4 (.tup [.int b, .int pp.w])
        refine ⟨zs, s4 _ _ d1, lt_size (by omega), zs ++ [.ref T4], upd_same, Same.upd' (d2.trans s4) hD, ?_⟩
        have tk := tupK_lst (o := .lst (zs ++ [.ref T4])) (s4 _ _ d1)
        rw [List.take_succ_eq_append_getElem hj, List.map_append, hb']
        exact ((d3.mono (Same.tupK s4)).mono tk).app ⟨T4, [], rfl, tk _ _ upd_same, rfl⟩
      · obtain ⟨zs, d1, d2, d3⟩ := hp
        rw [List.length_map, List.take_length] at d3
        have hzl := d3.len
        rw [List.length_map] at hzl
        have fF := d2 _ _ (s2 _ _ z1)
        refine ⟨F, D, ys, zs, rfl, rfl, fF, d1, le_size (by omega), ys ++ zs, _, _, _, _, rfl, upd_same, Same.upd' (z2'.trans d2) hF, ?_⟩
        have tk := tupK_lst (o := .lst (ys ++ zs)) fF
        rw [wl_take hl? hw?]
        exact ((z3.mono (Same.tupK (s2.trans d2))).mono tk).app (d3.mono tk)
    · obtain ⟨ys, o5, o6, o7, o8, rfl, z1, z2, z3⟩ := hp
      rw [ul, List.take_length, List.take_of_length_le (by rw [pw_len]; exact Nat.le_refl _)] at z3
      refine ⟨.ref F, rfl, F, ys, prOf H', rfl, sqL z1, z3.each, fun zs D hs hst hD => ?_⟩
      have s4 := same_new hD (.lst zs)
      obtain ⟨hrows, hat⟩ := rows_of z3 (hperm.nodup_iff.mpr hnd) hs hst.perm
      refine ⟨D, zs, rfl, .inl ⟨sqL upd_same, fun S hS => ?_⟩⟩
      have s5 := same_new hS (.tup zs)
      obtain ⟨l, L', rfl⟩ := hL.ne
      obtain ⟨p0, R, e⟩ := pw_ne l L'
      rw [e] at h3
      obtain ⟨a, u, rfl, g1, g2⟩ := h3
      have s45 := z2.trans (s4.trans s5)
      refine ⟨.ref p1, rfl, p1, _, 0, .ref a, rfl, rfl, sqL (s45 _ _ h2), atI_nat (j := 0) rfl, a, _, 0, .int p0.a, rfl, rfl, sqT (s45 _ _ g1), atI_nat (j := 0) rfl, (by show 2 ≤ sizeLine; decide), fun T5 hT5 => ?_⟩
      have s6 := same_new hT5 (.tup [.ref S, .int p0.a])
      exact q T5 S p0 R _ zs _ e (e3'.trans (s45.trans s6)) hrows upd_same (s6 _ _ upd_same) (hat.mono (Same.tupK (s4.trans (s5.trans s6))))
  · obtain ⟨oc, od, kV, doc, pm, an, cdv, ct, osl, efd, _, _⟩ := F.ex
    subst efd
    intro u
    rfl
end
end Ks
set_option maxRecDepth 100000
set_option maxHeartbeats 4000000
namespace Ks
open PySem PySem.Spec PyProof.Rows L2
/-! ### the deck, a draw -/
theorem sc_deck : FnScope ["_law_script", "_law_cell", "_law_cells", "_law_stirred"] ["_law_script"] (defScope (tp 48)) := ⟨rfl, rfl, rfl, by decide +kernel, rfl, by decide +kernel, by decide +kernel⟩
theorem sc_draw : FnScope ["_law_deck_here", "_law_many", "_law_deep", "_law_cell", "_law_one"] ["_law_deck_here", "_law_many"] (defScope (tp 49)) := ⟨rfl, rfl, rfl, by decide +kernel, rfl, by decide +kernel, by decide +kernel⟩
theorem sc_pick : FnScope ["_law_deck_here", "_law_items"] ["_law_deck_here", "_law_items"] (defScope (tp 50)) := ⟨rfl, rfl, rfl, by decide +kernel, rfl, by decide +kernel, by decide +kernel⟩
theorem sc_mixed : FnScope ["_law_deck_here", "_law_items", "_law_rest", "_law_found"] ["_law_deck_here", "_law_items"] (defScope (tp 51)) := ⟨rfl, rfl, rfl, by decide +kernel, rfl, by decide +kernel, by decide +kernel⟩
theorem sc_buttons : FnScope ["_law_deck_here", "_law_many", "_law_first", "_law_step", "_law_k"] ["_law_deck_here", "_law_many"] (defScope (tp 52)) := ⟨rfl, rfl, rfl, by decide +kernel, rfl, by decide +kernel, by decide +kernel⟩
def Deck (H : Hp) (d l : Addr) : Prop := ∃ (kvs : List (Key × V)) (b t : Int) (ns : List Int), H d = some (.dK kvs) ∧ kvs.length ≤ 9 ∧ valV kvs (.inr "deep") = some (.ref l) ∧ valV kvs (.inr "base") = some (.int b) ∧ valV kvs (.inr "turn") = some (.int t) ∧
  H l = some (.lst (ns.map V.int)) ∧ ns.length ≤ 100
/-- all but the deck stays -/
def Kp (d l : Addr) (H H2 : Hp) : Prop := ∀ b u, b ≠ d → b ≠ l → H b = some u → H2 b = some u
theorem Kp.refl (d l : Addr) (H : Hp) : Kp d l H H := fun _ _ _ _ h => h
theorem Kp.trans {d l : Addr} {H H1 H2 : Hp} (a : Kp d l H H1) (b : Kp d l H1 H2) : Kp d l H H2 := fun c u h1 h2 h => b c u h1 h2 (a c u h1 h2 h)
theorem Kp.of {d l : Addr} {H H1 : Hp} (a : Same H H1) : Kp d l H H1 := fun c u h1 h2 h => a c u h
theorem Deck.ne {H : Hp} {d l : Addr} (h : Deck H d l) {p : Addr} (n : H p = none) : p ≠ d ∧ p ≠ l := by
  obtain ⟨kvs, b, t, ns, h1, _, _, _, _, h6, _⟩ := h
  exact ⟨Ne.symm (ne_of_none h1 n), Ne.symm (ne_of_none h6 n)⟩
theorem Deck.neT {H : Hp} {d l : Addr} (h : Deck H d l) {p : Addr} {xs : List V} (e : H p = some (.tup xs)) : p ≠ d ∧ p ≠ l := by
  obtain ⟨kvs, b, t, ns, h1, _, _, _, _, h6, _⟩ := h
  refine ⟨fun z => ?_, fun z => ?_⟩
  · rw [z, h1] at e
    cases e
  · rw [z, h6] at e
    cases e
theorem Deck.dl {H : Hp} {d l : Addr} (h : Deck H d l) : d ≠ l := by
  obtain ⟨kvs, b, t, ns, h1, _, _, _, _, h6, _⟩ := h
  intro z
  rw [z, h6] at h1
  cases h1
theorem Kp.tupK {H H2 : Hp} {d l : Addr} (k : Kp d l H H2) (h : Deck H d l) : TupK H H2 := fun b xs e => k b _ (h.neT e).1 (h.neT e).2 e
theorem Deck.same {H H2 : Hp} {d l : Addr} (h : Deck H d l) (e : Same H H2) : Deck H2 d l := by
  obtain ⟨kvs, b, t, ns, h1, h2, h3, h4, h5, h6, h7⟩ := h
  exact ⟨kvs, b, t, ns, e _ _ h1, h2, h3, h4, h5, e _ _ h6, h7⟩
theorem Deck.upd {H : Hp} {d l p : Addr} {o : HO} (h : Deck H d l) (h1 : p ≠ d) (h2 : p ≠ l) : Deck (L2.upd H p o) d l := by
  obtain ⟨kvs, b, t, ns, g1, g2, g3, g4, g5, g6, g7⟩ := h
  exact ⟨kvs, b, t, ns, by rw [upd_ne (Ne.symm h1)]; exact g1, g2, g3, g4, g5, by rw [upd_ne (Ne.symm h2)]; exact g6, g7⟩
def sp_deck (K : PySem.W.Frag) : Sp := fun vs H Q _ => ∃ (a : Addr) (ns : List Int), vs = [.ref a] ∧ SqL K H a (ns.map V.int) ∧ ∀ d l H2, Same H H2 → Deck H2 d l → H d = none → H l = none → Q (.ref d) H2
def sp_draw : Sp := fun vs H Q _ => ∃ (d l : Addr) (m : Int), vs = [.ref d, .int m] ∧ Deck H d l ∧ 1 ≤ m ∧ m ≤ 1000 ∧ ∀ r H2, 0 ≤ r → r < m → Kp d l H H2 → Deck H2 d l → Q (.int r) H2
def sp_pick : Sp := fun vs H Q _ => ∃ (d l a : Addr) (ns : List Int), vs = [.ref d, .ref a] ∧ Deck H d l ∧ H a = some (.lst (ns.map V.int)) ∧ a ≠ d ∧ a ≠ l ∧ ns ≠ [] ∧ ns.length ≤ 100 ∧ ∀ r H2, r ∈ ns → Kp d l H H2 → Deck H2 d l → Q (.int r) H2
def sp_mixed : Sp := fun vs H Q _ => ∃ (d l a : Addr) (ns : List Int), vs = [.ref d, .ref a] ∧ Deck H d l ∧ H a = some (.lst (ns.map V.int)) ∧ ns.length ≤ 100 ∧
  ∀ (p : Addr) (ms : List Int) (H2 : Hp), H p = none → ms.Perm ns → Kp d l H H2 → Deck H2 d l → H2 p = some (.lst (ms.map V.int)) → Q (.ref p) H2
def sp_buttons : Sp := fun vs H Q _ => ∃ (d l : Addr) (m : Nat), vs = [.ref d, .int (m : Int)] ∧ Deck H d l ∧ m ≤ 60 ∧
  ∀ (p : Addr) (ms : List Int) (H2 : Hp), H p = none → ms.Nodup → ms.length = m → (∀ b ∈ ms, 0 ≤ b ∧ b ≤ 1000) → Kp d l H H2 → Deck H2 d l → H2 p = some (.lst (ms.map V.int)) → Q (.ref p) H2
theorem cut63 (ns : List Int) : ∃ ms : List Int, cutV (ns.map V.int) none (some 63) = ms.map V.int ∧ ms.length ≤ 63 := by
  refine ⟨(ns.drop (HT.sIx (ns.map V.int).length 0 none)).take (HT.sIx (ns.map V.int).length (ns.map V.int).length (some 63) - HT.sIx (ns.map V.int).length 0 none), ?_, ?_⟩
  · unfold cutV
    rw [List.map_take, List.map_drop]
  · have : HT.sIx (ns.map V.int).length (ns.map V.int).length (some 63) ≤ 63 := by
      exact Nat.min_le_left _ _
    rw [List.length_take]
    omega
section
variable {P : Program} {w : World} {K : PySem.W.Frag} {mg : Str → Option Value} {base : Heap}
theorem ok_deck (B : Bi mg) (D : Df K mg "_law_deck" (tp 48) ["_law_script"]) : Cal P w K mg base 1 "_law_deck" (sp_deck K) := by
  refine D.cal sc_deck (fun vs H Q E h => ?_) (fun f cdv A outer s H vs Q E hr h => ?_)
  · obtain ⟨a, ns, rfl, _⟩ := h
    rfl
  have nd := sc_deck.nd
  obtain ⟨a, ns, rfl, ha, q⟩ := h
  refine ⟨_, pss_cons (ps_par (i := 2) (j := 3) rfl nd rfl rfl (by decide) rfl rfl (pa_cons
      (pe_lc (own := [("_law_cell", 1)]) (g := gName 1) rfl nd (pi_list (pe_slice sl_list (pv 0) po_none (po_some pe_int))) (blkOk_by (N := ["_law_script", "_law_cell", "_law_cells", "_law_stirred"]) (sc := defScope (tp 48)) (by decide +kernel))
        (fun _ _ _ _ _ => pg_name (i := 1) nd rfl (Or.inl rfl)) (fun _ _ _ _ _ => pts_nil) (fun _ _ _ _ _ => pe_op op_add (pe_op op_mul pe_int (pe_callB call_abs (by rfl) B.abs (by decide +kernel) (pa_cons (pv 1) pa_nil)))
          (pe_callTy call_int1 (by rfl) B.int (by decide +kernel) (pa_cons (pe_cmpR op_lt (pv 1) pe_int (nomark _)) pa_nil))))
      (pa_cons (pe_op op_add pe_int (p_len B.len (pv 0))) pa_nil)) (by rfl))
    (pss_cons (ps_for PassesOwn.never rfl (pi_list (pv 2)) (pg_name (i := 1) nd rfl (.inl rfl))
        (pss_one (ps_set (i := 3) nd rfl (.inl rfl) (pe_op op_mod (pe_callTy call_int1 (by rfl) B.int (by decide +kernel) (pa_cons (pe_op op_add (pe_op op_add (pe_op op_mul (pv 3) pe_int) (pv 1)) pe_int) pa_nil)) pe_int))))
    (pss_one (ps_ret (pe_disp (pps_cons pe_str (pe_lc (own := [("_law_cell", 1)]) (g := gName 1) rfl nd (pi_list (pv 2)) (blkOk_by (N := ["_law_script", "_law_cell", "_law_cells", "_law_stirred"]) (sc := defScope (tp 48)) (by decide +kernel))
        (fun _ _ _ _ _ => pg_name (i := 1) nd rfl (Or.inl rfl)) (fun _ _ _ _ _ => pts_one (pt_cmpR op_ge (pv 1) (pe_op op_pow pe_int pe_int) (nomark _))) (fun _ _ _ _ _ => pv 1))
      (pps_cons pe_str (pv 3) (pps_cons pe_str pe_int pps_nil))) rfl rfl (by simp) (by decide))))), ?_⟩
  obtain ⟨ms, em, hm⟩ := cut63 ns
  refine ⟨.ref a, rfl, 63, rfl, a, _, rfl, ha, fun p0 hp0 => ?_⟩
  rw [em]
  have s0 := same_new hp0 (.lst (ms.map V.int))
  refine ⟨p0, rfl, ⟨_, sqL upd_same⟩, fun C hC => ?_⟩
  have s1 := same_new hC (.lst [])
  have hsC : SqL K (upd H p0 (.lst (ms.map V.int))) a (ns.map V.int) := s0.seq ha
  refine lc_list (xs := ms.map V.int) (fun i H' => ∃ cs : List Int, cs.length = i ∧ H' = upd (upd H p0 (.lst (ms.map V.int))) C (.lst (cs.map V.int))) ⟨[], rfl, rfl⟩ (fun i H' _ hp => ?_) (fun i x H' hx hp => ?_) (fun H' hp => ?_)
  · obtain ⟨cs, _, rfl⟩ := hp
    exact sqL (same_new hC _ _ _ upd_same)
  · obtain ⟨cs, hcs, rfl⟩ := hp
    rw [List.getElem?_map] at hx
    obtain ⟨c, hc, rfl⟩ := Option.map_eq_some_iff.mp hx
    have hi : i < ms.length := (List.getElem?_eq_some_iff.mp hc).1
    refine ⟨rfl, .int c, rfl, c, rfl, _, _, rfl, rfl, .inl (by decide), .int c, rfl, _, _, rfl, rfl, .inr ⟨_, rfl, _, _, rfl, rfl, ?_⟩⟩
    refine ⟨cs.map V.int, upd_same, lt_size (by rw [List.length_map]; omega), cs ++ [2 * (if c < 0 then -c else c) + (if decide (c < 0) then 1 else 0)], by rw [List.length_append, hcs]; rfl, ?_⟩
    rw [upd_upd, List.map_append]
    rfl
  · obtain ⟨cs, hcs, rfl⟩ := hp
    rw [List.length_map] at hcs
    have hsC2 : SqL K (upd (upd H p0 (.lst (ms.map V.int))) C (.lst (cs.map V.int))) a (ns.map V.int) := (same_new hC _).seq hsC
    refine ⟨.ref a, rfl, a, _, rfl, .inl hsC2, _, _, rfl, rfl, _, _, rfl, ?_⟩
    have sC : Same H (upd (upd H p0 (.lst (ms.map V.int))) C (.lst (cs.map V.int))) := s0.trans (same_new hC _)
    have hCC : (upd (upd H p0 (.lst (ms.map V.int))) C (.lst (cs.map V.int))) C = some (.lst (cs.map V.int)) := upd_same
    have hCH : H C = none := Same.free s0 hC
    revert sC hCC
    generalize upd (upd H p0 (.lst (ms.map V.int))) C (.lst (cs.map V.int)) = HC
    intro sC hCC
    refine ⟨.ref C, rfl, C, rfl, ⟨_, sqL hCC⟩, ?_⟩
    refine for_list (xs := cs.map V.int) (fun i σ H' => H' = HC ∧ ∃ o1 st, σ = [some (.ref a), o1, some (.ref C), some (.int st)]) ⟨rfl, _, _, rfl⟩ (fun i σ H' _ hp => ?_) (fun i x σ H' hx hp => ?_) (fun σ H' hp => ?_)
    · obtain ⟨rfl, _⟩ := hp
      exact sqL hCC
    · obtain ⟨rfl, o1, st, rfl⟩ := hp
      rw [List.getElem?_map] at hx
      obtain ⟨c, hc, rfl⟩ := Option.map_eq_some_iff.mp hx
      exact ⟨.int st, rfl, _, _, rfl, rfl, .inr (by decide), .int c, rfl, _, _, rfl, rfl, _, _, rfl, rfl, .inl ⟨_, rfl, _, _, rfl, rfl, (by show (0 : Int) < 4294967291; decide), rfl, _, _, rfl⟩⟩
    · obtain ⟨rfl, o1, st, rfl⟩ := hp
      refine fun p hp => ?_
      have s2 := same_new hp (.dK [])
      refine ⟨.ref C, rfl, C, rfl, ⟨_, sqL (s2 _ _ hCC)⟩, fun E1 hE1 => ?_⟩
      have s3 := same_new hE1 (.lst [])
      refine lc_list (xs := cs.map V.int) (fun i H2 => ∃ es : List Int, es.length ≤ i ∧ H2 = upd (upd H' p (.dK [])) E1 (.lst (es.map V.int))) ⟨[], Nat.le_refl _, rfl⟩ (fun i H2 _ hp => ?_) (fun i x H2 hx hp => ?_) (fun H2 hp => ?_)
      · obtain ⟨es, _, rfl⟩ := hp
        exact sqL (same_new hE1 _ _ _ (s2 _ _ hCC))
      · obtain ⟨es, hes, rfl⟩ := hp
        rw [List.getElem?_map] at hx
        obtain ⟨c, hc, rfl⟩ := Option.map_eq_some_iff.mp hx
        have hi : i < cs.length := (List.getElem?_eq_some_iff.mp hc).1
        refine ⟨rfl, .int c, rfl, _, _, rfl, rfl, (by show (0 : Int) ≤ 16 ∧ (16 : Int) ≤ 1000000 ∧ (10 : Int).natAbs < 2 ^ 64; decide), _, _, rfl, rfl, _, rfl, ?_⟩
        show if decide _ = true then _ else _
        split
        · refine ⟨.int c, rfl, es.map V.int, upd_same, lt_size (by rw [List.length_map]; omega), es ++ [c], by rw [List.length_append]; simp; omega, ?_⟩
          rw [upd_upd, List.map_append]
          rfl
        · exact ⟨es, by omega, rfl⟩
      · obtain ⟨es, hes, rfl⟩ := hp
        rw [List.length_map] at hes
        refine ⟨.int st, rfl, ?_⟩
        have hpE : p ≠ E1 := ne_of_none upd_same hE1
        have hp2 : (upd (upd H' p (.dK [])) E1 (.lst (es.map V.int))) p = some (.dK []) := by
          rw [upd_ne hpE]
          exact upd_same
        refine ⟨hp2, [(.inr "deep", .ref E1), (.inr "base", .int st), (.inr "turn", .int 0)], rfl, (by show 3 ≤ 15; decide), ?_⟩
        have hmk : mergeK [] [((.inr "deep" : Key), V.ref E1), (.inr "base", .int st), (.inr "turn", .int 0)] = [(.inr "deep", V.ref E1), (.inr "base", .int st), (.inr "turn", .int 0)] := by rfl
        rw [hmk]
        have hpH : H p = none := Same.free sC hp
        have hEH : H E1 = none := Same.free sC (Same.free s2 hE1)
        refine q p E1 _ ?_ ⟨_, st, 0, es, upd_same, ?_, ?_, ?_, ?_, ?_, ?_⟩ hpH hEH
        · exact Same.upd' (Same.upd' (Same.upd' sC hpH) hEH) hpH
        · show 3 ≤ 9
          decide
        · rfl
        · rfl
        · rfl
        · rw [upd_ne (Ne.symm hpE), upd_same]
        · omega
theorem ok_draw (B : Bi mg) (D : Df K mg "_law_draw" (tp 49) ["_law_deck_here", "_law_many"]) : Cal P w K mg base 1 "_law_draw" sp_draw := by
  refine D.cal sc_draw (fun vs H Q E h => ?_) (fun f cdv A outer s H vs Q E hr h => ?_)
  · obtain ⟨d, l, m, rfl, _⟩ := h
    rfl
  have nd := sc_draw.nd
  have hu := hr.units
  have hu1 : (cxOf CX0 P w K mg base ["_law_deck_here", "_law_many", "_law_deep", "_law_cell", "_law_one"] "_law_draw" (defScope (tp 49)) f cdv A outer s H E).nox.A.units + 1 < cLine := Nat.lt_of_le_of_lt (Nat.add_le_add_left (by decide) _) hu
  obtain ⟨d, l, m, rfl, hD, hm1, hm2, q⟩ := h
  refine ⟨_, pss_cons (ps_set (i := 2) nd rfl (.inl rfl) (pe_dget hu1 (pv 0) pe_str (fun _ _ => rfl)))
    (pss_cons (ps_if (pt_cmpR op_lt (pv 1) pe_int (nomark _)) (pss_one (ps_ret pe_int)) pss_nil)
    (pss_cons (ps_if (pt_cmpR (op_neD hu) (pv 2) (pe_lst pa_nil) (by rfl))
      (pss_cons (ps_set (i := 3) nd rfl (.inl rfl) (pe_bm0 PySem.F.plainAttrs_list PySem.F.slot_list_pop PySem.F.type_list_pop mt_pop (pv 2)))
      (pss_cons (ps_if (pt_cmpR op_ge (pv 3) (pv 1) (nomark _)) (pss_one (ps_expr (pe_bm PySem.F.plainAttrs_list PySem.F.slot_list_append PySem.F.type_list_append mt_append (pv 2) (pa_cons (pe_op op_fdiv (pv 3) (pv 1)) pa_nil)))) pss_nil)
      (pss_one (ps_ret (pe_op op_mod (pe_callTy call_int1 (by rfl) B.int (by decide +kernel) (pa_cons (pv 3) pa_nil)) (pv 1)))))) pss_nil)
    (pss_cons (ps_dput hu1 (pv 0) pe_str (pe_op op_add (pe_dget hu1 (pv 0) pe_str (fun _ _ => rfl)) pe_int) rfl)
    (pss_cons (ps_set (i := 4) nd rfl (.inl rfl) (pe_op op_mod (pe_callTy call_int1 (by rfl) B.int (by decide +kernel) (pa_cons (pe_op op_add (pe_dget hu1 (pv 0) pe_str (fun _ _ => rfl)) (pe_op op_mul pe_int (pe_dget hu1 (pv 0) pe_str (fun _ _ => rfl)))) pa_nil)) pe_int))
    (pss_cons (ps_set (i := 4) nd rfl (.inl rfl) (pe_op op_mod (pe_callTy call_int1 (by rfl) B.int (by decide +kernel) (pa_cons (pe_op op_add (pe_op op_add (pe_op op_mul (pv 4) (pv 4)) (pe_op op_mul pe_int (pe_dget hu1 (pv 0) pe_str (fun _ _ => rfl)))) pe_int) pa_nil)) pe_int))
    (pss_cons (ps_set (i := 4) nd rfl (.inl rfl) (pe_op op_mod (pe_callTy call_int1 (by rfl) B.int (by decide +kernel) (pa_cons (pe_op op_add (pe_op op_mul (pv 4) (pv 4)) (pe_dget hu1 (pv 0) pe_str (fun _ _ => rfl))) pa_nil)) pe_int))
    (pss_one (ps_ret (pe_op op_mod (pe_callTy call_int1 (by rfl) B.int (by decide +kernel) (pa_cons (pe_op op_fdiv (pv 4) pe_int) pa_nil)) (pv 1)))))))))), ?_⟩
  have hD0 := hD
  obtain ⟨kvs, b, t, ns, g1, g2, g3, g4, g5, g6, g7⟩ := hD
  have get : ∀ {H' : Hp} {kvs : List (Key × V)} {k : Key} {v : V}, H' d = some (.dK kvs) → valV kvs k = some v → DGet H' d (kV k) (some v) := fun {H' kvs k v} e1 e2 => by
    have := DGet.k (k := k) e1
    rw [e2] at this
    exact this
  refine ⟨.ref d, rfl, d, .ref l, rfl, get (k := .inr "deep") g1 g3, .int m, rfl, m, 2, rfl, rfl, _, rfl, ?_⟩
  have hmm : ∀ c : Int, 0 ≤ c % m ∧ c % m < m := fun c => ⟨Int.emod_nonneg _ (by omega), Int.emod_lt_of_pos _ (by omega)⟩
  by_cases h2 : m < 2
  · rw [decide_eq_true h2]
    exact iteT (q 0 H (Int.le_refl _) (by omega) (Kp.refl _ _ _) hD0)
  rw [decide_eq_false h2]
  refine iteF ⟨.ref l, rfl, ?_⟩
  refine rd_ne (xs := ns.map V.int) g6 (fun H' _ => dp_ints ns) (shaped_ints ns) fun p hp => ⟨_, rfl, ?_⟩
  have s1 := same_new hp (.lst [])
  have hD1 := hD0.same s1
  have k1 : Kp d l H (upd H p (.lst [])) := Kp.of s1
  rcases List.eq_nil_or_concat ns with e | ⟨ms, c, e⟩
  · subst e
    refine iteF ?_
    -- the turn goes on
    have g1' := s1 _ _ g1
    refine ⟨.ref d, rfl, d, .int t, rfl, get (k := .inr "turn") g1' g5, _, _, rfl, rfl, .ref d, rfl, d, _, rfl, DPut.k (k := .inr "turn") g1' (lt_size (by omega)), ?_⟩
    have v1 : valV (putK kvs (.inr "turn") (.int (t + 1))) (.inr "turn") = some (.int (t + 1)) := by rw [valV_put, if_pos rfl]
    have v2 : valV (putK kvs (.inr "turn") (.int (t + 1))) (.inr "base") = some (.int b) := by rw [valV_put, if_neg (by decide)]; exact g4
    have v3 : valV (putK kvs (.inr "turn") (.int (t + 1))) (.inr "deep") = some (.ref l) := by rw [valV_put, if_neg (by decide)]; exact g3
    have hl : (putK kvs (.inr "turn") (.int (t + 1))).length ≤ 9 := by
      unfold putK
      rw [valV_any, g5]
      simpa using g2
    have hd2 : (upd (upd H p (.lst [])) d (.dK (putK kvs (.inr "turn") (.int (t + 1))))) d = some (.dK (putK kvs (.inr "turn") (.int (t + 1)))) := upd_same
    have hl2 : (upd (upd H p (.lst [])) d (.dK (putK kvs (.inr "turn") (.int (t + 1))))) l = some (.lst (([] : List Int).map V.int)) := by
      rw [upd_ne (Ne.symm hD0.dl)]
      exact s1 _ _ g6
    have k2 : Kp d l H (upd (upd H p (.lst [])) d (.dK (putK kvs (.inr "turn") (.int (t + 1))))) := fun c u h1 h2 h => by
      rw [upd_ne h1]
      exact s1 _ _ h
    revert hd2 hl2 k2
    generalize upd (upd H p (.lst [])) d (.dK (putK kvs (.inr "turn") (.int (t + 1)))) = H2
    intro hd2 hl2 k2
    refine ⟨.ref d, rfl, d, .int b, rfl, get (k := .inr "base") hd2 v2, .ref d, rfl, d, .int (t + 1), rfl, get (k := .inr "turn") hd2 v1, _, _, rfl, rfl, .inl (by decide), _, _, rfl, rfl, .inl ⟨_, rfl, _, _, rfl, rfl, (by show (0 : Int) < 4294967291; decide), ?_⟩⟩
    have r1 : ∀ x : Int, 0 ≤ x % 4294967291 ∧ x % 4294967291 < 4294967291 := fun x => ⟨Int.emod_nonneg _ (by decide), Int.emod_lt_of_pos _ (by decide)⟩
    have r2 : ∀ x : Int, 0 ≤ x % 4294967279 ∧ x % 4294967279 < 4294967279 := fun x => ⟨Int.emod_nonneg _ (by decide), Int.emod_lt_of_pos _ (by decide)⟩
    have big : ∀ x : Int, 0 ≤ x → x < 4294967291 → -(2 ^ 64) < x ∧ x < 2 ^ 64 := fun x a b => by
      have e : (2 ^ 64 : Int) = 18446744073709551616 := by decide
      rw [e]
      omega
    refine ⟨_, rfl, _, rfl, _, _, rfl, rfl, .inl (big _ (r1 _).1 (r1 _).2), .ref d, rfl, d, .int (t + 1), rfl, get (k := .inr "turn") hd2 v1, _, _, rfl, rfl, .inl (by decide), _, _, rfl, rfl, _, _, rfl, rfl, .inl ⟨_, rfl, _, _, rfl, rfl, (by show (0 : Int) < 4294967279; decide), ?_⟩⟩
    refine ⟨_, rfl, _, rfl, _, _, rfl, rfl, .inl (big _ (r2 _).1 (Int.lt_trans (r2 _).2 (by decide))), .ref d, rfl, d, .int b, rfl, get (k := .inr "base") hd2 v2, _, _, rfl, rfl, .inl ⟨_, rfl, _, _, rfl, rfl, (by show (0 : Int) < 4294967231; decide), ?_⟩⟩
    refine ⟨_, rfl, _, _, rfl, rfl, ⟨by decide, by decide⟩, .inl ⟨_, rfl, .int m, rfl, _, _, rfl, rfl, (by show (0 : Int) < m; omega), ?_⟩⟩
    exact q _ H2 (hmm _).1 (hmm _).2 k2 ⟨_, b, t + 1, [], hd2, hl, v3, v2, v1, hl2, by simp⟩
  · have e : ns = ms ++ [c] := by simpa using e
    subst e
    have he : (!((ms ++ [c]).map V.int).isEmpty) = true := by cases ms <;> rfl
    rw [he]
    have g6' := s1 _ _ g6
    have hml : ms.length + 1 ≤ 100 := by simpa using g7
    have hlast : ((ms ++ [c]).map V.int)[((ms ++ [c]).map V.int).length - 1]? = some (.int c) := by simp
    refine iteT ⟨.ref l, rfl, .inl ⟨rfl, _, sqL g6'⟩, l, _, .int c, rfl, rfl, g6', hlast, ?_⟩
    have hdl : ((ms ++ [c]).map V.int).dropLast = ms.map V.int := by simp
    rw [hdl]
    have hpl : p ≠ l := (hD0.ne hp).2
    have dk : ∀ {H' : Hp} {os : List Int}, H' d = some (.dK kvs) → H' l = some (.lst (os.map V.int)) → os.length ≤ 100 → Deck H' d l := fun e1 e2 e3 => ⟨kvs, b, t, _, e1, g2, g3, g4, g5, e2, e3⟩
    have hd2 : (upd (upd H p (.lst [])) l (.lst (ms.map V.int))) d = some (.dK kvs) := by
      rw [upd_ne hD0.dl]
      exact s1 _ _ g1
    have hl2 : (upd (upd H p (.lst [])) l (.lst (ms.map V.int))) l = some (.lst (ms.map V.int)) := upd_same
    have k2 : Kp d l H (upd (upd H p (.lst [])) l (.lst (ms.map V.int))) := fun c u h1 h2 h => by
      rw [upd_ne h2]
      exact s1 _ _ h
    revert hd2 hl2 k2
    generalize upd (upd H p (.lst [])) l (.lst (ms.map V.int)) = H2
    intro hd2 hl2 k2
    refine ⟨.int c, rfl, .int m, rfl, c, m, rfl, rfl, _, rfl, ?_⟩
    by_cases hc : m ≤ c
    · rw [decide_eq_true hc]
      refine iteT ⟨.ref l, rfl, .inl ⟨rfl, _, sqL hl2⟩, .int c, rfl, .int m, rfl, c, m, rfl, rfl, ⟨(by show (0 : Int) < m; omega), (by show m < 1073741824; omega)⟩, l, _, _, rfl, rfl, hl2, lt_size (by rw [List.length_map]; omega), ?_⟩
      refine ⟨.int c, rfl, .inl ⟨_, rfl, .int m, rfl, _, _, rfl, rfl, (by show (0 : Int) < m; omega), ?_⟩⟩
      refine q _ _ (hmm _).1 (hmm _).2 (fun c u h1 h2 h => ?_) (dk (os := ms ++ [c / m]) (by rw [upd_ne hD0.dl]; exact hd2) (by rw [upd_same, List.map_append]; rfl) (by rw [List.length_append]; exact hml))
      rw [upd_ne h2]
      exact k2 _ _ h1 h2 h
    · rw [decide_eq_false hc]
      refine iteF ⟨.int c, rfl, .inl ⟨_, rfl, .int m, rfl, _, _, rfl, rfl, (by show (0 : Int) < m; omega), ?_⟩⟩
      exact q _ _ (hmm _).1 (hmm _).2 k2 (dk hd2 hl2 (by omega))
end
end Ks
set_option maxRecDepth 100000
set_option maxHeartbeats 4000000
namespace Ks
open PySem PySem.Spec PyProof.Rows L2
/-! ### pick, mixed, buttons -/
theorem atI_in {α : Type} {xs : List α} {i : Int} (h0 : 0 ≤ i) (h1 : i < (xs.length : Int)) : ∃ x, xs[i.toNat]? = some x ∧ atI xs i = some x := by
  have hn : i.toNat < xs.length := by omega
  refine ⟨xs[i.toNat], List.getElem?_eq_getElem hn, ?_⟩
  have := atI_nat (List.getElem?_eq_getElem hn)
  rw [show ((i.toNat : Nat) : Int) = i by omega] at this
  exact this
theorem seqIx {n : Nat} {i : Int} (h0 : 0 ≤ i) (h1 : i < (n : Int)) : seqIndex? i n = some i.toNat := by
  unfold seqIndex?
  simp [h0, h1]
  omega
theorem Kp.free {d l : Addr} {H H2 : Hp} (k : Kp d l H H2) (h : Deck H2 d l) {p : Addr} (n : H2 p = none) : H p = none := by
  obtain ⟨h1, h2⟩ := h.ne n
  cases e : H p with
  | none => rfl
  | some u =>
    have := k _ _ h1 h2 e
    rw [n] at this
    cases this
theorem erase_map {α β : Type} (f : α → β) (l : List α) (i : Nat) : (l.map f).eraseIdx i = (l.eraseIdx i).map f := by rw [List.eraseIdx_eq_take_drop_succ, List.eraseIdx_eq_take_drop_succ, List.map_append, List.map_take, List.map_drop]
theorem erase_perm {α : Type} {l : List α} {i : Nat} (h : i < l.length) : (l[i] :: l.eraseIdx i).Perm l := by
  conv => rhs; rw [← List.take_append_drop i l, List.drop_eq_getElem_cons h]
  rw [List.eraseIdx_eq_take_drop_succ]
  exact List.perm_middle.symm
section
variable {P : Program} {w : World} {K : PySem.W.Frag} {mg : Str → Option Value} {base : Heap}
theorem ok_pick (B : Bi mg) (D : Df K mg "_law_pick" (tp 50) ["_law_deck_here", "_law_items"]) (cD : Cal P w K mg base 1 "_law_draw" sp_draw) : Cal P w K mg base 2 "_law_pick" sp_pick := by
  refine D.cal sc_pick (fun vs H Q E h => ?_) (fun f cdv A outer s H vs Q E hr h => ?_)
  · obtain ⟨d, l, a, ns, rfl, _⟩ := h
    rfl
  have nd := sc_pick.nd
  obtain ⟨d, l, a, ns, rfl, hD, ha, had, hal, hne, hl, q⟩ := h
  refine ⟨_, pss_one (ps_ret (pe_ix ix_list (pv 1) (pc cD hr (by decide) (pa_cons (pv 0) (pa_cons (p_len B.len (pv 1)) pa_nil))) (fun _ _ => rfl))), ?_⟩
  have hpos := List.length_pos_iff.mpr hne
  refine ⟨.ref a, rfl, .ref d, rfl, .ref a, rfl, a, _, rfl, .inl (sqL ha), d, l, _, rfl, hD, by rw [List.length_map]; omega, by rw [List.length_map]; omega, fun r H2 h0 h1 k2 d2 => ?_⟩
  rw [List.length_map] at h1
  obtain ⟨x, e1, e2⟩ := atI_in (xs := ns) h0 h1
  have e3 : atI (ns.map V.int) r = some (.int x) := by
    obtain ⟨y, f1, f2⟩ := atI_in (xs := ns.map V.int) h0 (by rw [List.length_map]; exact h1)
    rw [List.getElem?_map, e1] at f1
    rw [f2]
    exact f1.symm
  exact ⟨a, _, r, .int x, rfl, rfl, sqL (k2 _ _ had hal ha), e3, q x H2 (List.mem_of_getElem? e1) k2 d2⟩
theorem ok_mixed (B : Bi mg) (D : Df K mg "_law_mixed" (tp 51) ["_law_deck_here", "_law_items"]) (cD : Cal P w K mg base 1 "_law_draw" sp_draw) : Cal P w K mg base 2 "_law_mixed" sp_mixed := by
  refine D.cal sc_mixed (fun vs H Q E h => ?_) (fun f cdv A outer s H vs Q E hr h => ?_)
  · obtain ⟨d, l, a, ns, rfl, _⟩ := h
    rfl
  have nd := sc_mixed.nd
  have hu := hr.units
  obtain ⟨d, l, a, ns, rfl, hD, ha, hl, q⟩ := h
  refine ⟨_, pss_cons (ps_par (i := 2) (j := 3) rfl nd rfl rfl (by decide) rfl rfl (pa_cons (pe_callTy call_list_of (by rfl) B.list (by decide +kernel) (pa_cons (pv 1) pa_nil)) (pa_cons (pe_lst pa_nil) pa_nil)) (by rfl))
    (pss_cons (ps_while PassesOwn.never (pt_cmpR (op_neD hu) (pv 2) (pe_lst pa_nil) (by rfl))
      (pss_one (ps_expr (pe_bm PySem.F.plainAttrs_list PySem.F.slot_list_append PySem.F.type_list_append mt_append (pv 3) (pa_cons
        (pe_bm PySem.F.plainAttrs_list PySem.F.slot_list_pop PySem.F.type_list_pop mt_popAt (pv 2) (pa_cons (pc cD hr (by decide) (pa_cons (pv 0) (pa_cons (p_len B.len (pv 2)) pa_nil))) pa_nil)) pa_nil)))))
    (pss_one (ps_ret (pv 3)))), ?_⟩
  refine ⟨.ref a, rfl, a, _, rfl, .inl (sqL ha), fun R hR => ⟨by decide, fun F hF => ⟨_, _, rfl, ?_⟩⟩⟩
  have s1 := same_new hR (.lst (ns.map V.int))
  have s2 := same_new hF (.lst [])
  have hRF : R ≠ F := ne_of_none upd_same hF
  have hF0 := Same.free s1 hF
  obtain ⟨nR1, nR2⟩ := hD.ne hR
  obtain ⟨nF1, nF2⟩ := hD.ne hF0
  refine ⟨fun m σ H' => ∃ rs os : List Int, σ = [some (.ref d), some (.ref a), some (.ref R), some (.ref F)] ∧ H' R = some (.lst (rs.map V.int)) ∧ H' F = some (.lst (os.map V.int)) ∧ (os ++ rs).Perm ns ∧ Kp d l H H' ∧ Deck H' d l ∧ m = rs.length,
    ⟨_, ns, [], rfl, s2 _ _ upd_same, upd_same, List.Perm.refl _, Kp.of (s1.trans s2), hD.same (s1.trans s2), rfl⟩, ?_⟩
  rintro m σ H' ⟨rs, os, rfl, z1, z2, z3, z4, z5, rfl⟩
  refine ⟨.ref R, rfl, ?_⟩
  refine rd_ne (xs := rs.map V.int) z1 (fun H' _ => dp_ints rs) (shaped_ints rs) fun p hp => ⟨_, rfl, ?_⟩
  have s3 := same_new hp (.lst [])
  cases rs with
  | nil =>
    refine iteF ⟨.ref F, rfl, ?_⟩
    rw [List.append_nil] at z3
    exact q F os _ hF0 z3 (z4.trans (Kp.of s3)) (z5.same s3) (s3 _ _ z2)
  | cons r0 rs0 =>
    refine iteT ⟨fun σ' H2 => ∃ rs' os' : List Int, σ' = [some (.ref d), some (.ref a), some (.ref R), some (.ref F)] ∧ H2 R = some (.lst (rs'.map V.int)) ∧ H2 F = some (.lst (os'.map V.int)) ∧ (os' ++ rs').Perm ns ∧ Kp d l H H2 ∧ Deck H2 d l ∧ rs'.length < (r0 :: rs0).length, ?_, ?_⟩
    · rintro σ' H2 ⟨rs', os', e1, e2, e3, e4, e5, e6, e7⟩
      exact ⟨_, e7, rs', os', e1, e2, e3, e4, e5, e6, rfl⟩
    · have hlen : os.length + (r0 :: rs0).length = ns.length := by rw [← z3.length_eq, List.length_append]
      refine ⟨.ref F, rfl, .inl ⟨rfl, _, sqL (s3 _ _ z2)⟩, .ref R, rfl, .inl ⟨rfl, _, sqL (s3 _ _ z1)⟩, .ref d, rfl, .ref R, rfl, R, _, rfl, .inl (sqL (s3 _ _ z1)), d, l, _, rfl, z5.same s3, by rw [List.length_map, List.length_cons]; omega, by rw [List.length_map]; omega, fun i H2 h0 h1 k2 d2 => ?_⟩
      rw [List.length_map] at h1
      have r2 := k2 _ _ nR1 nR2 (s3 _ _ z1)
      have f2 := k2 _ _ nF1 nF2 (s3 _ _ z2)
      generalize r0 :: rs0 = rs at *
      have hi : i.toNat < rs.length := by omega
      have e1 : (rs.map V.int)[i.toNat]? = some (.int rs[i.toNat]) := by rw [List.getElem?_map, List.getElem?_eq_getElem hi]; rfl
      refine ⟨R, _, i, i.toNat, .int rs[i.toNat], rfl, rfl, r2, by omega, ?_, by rw [List.length_map]; exact seqIx h0 h1, e1, ?_⟩
      · have : (100 : Int) < 2 ^ 63 := by decide
        omega
      refine ⟨F, _, _, rfl, rfl, by rw [upd_ne (Ne.symm hRF)]; exact f2, lt_size (by rw [List.length_map]; omega), ?_⟩
      refine ⟨rs.eraseIdx i.toNat, os ++ [rs[i.toNat]], rfl, ?_, ?_, ?_, ?_, ?_, ?_⟩
      · rw [upd_ne hRF, upd_same, erase_map]
      · rw [upd_same, List.map_append]
        rfl
      · refine List.Perm.trans ?_ z3
        rw [List.append_assoc]
        exact (erase_perm hi).append_left os
      · intro c u h1 h2 h
        have hcR : c ≠ R := ne_of_none h hR
        have hcF : c ≠ F := ne_of_none h hF0
        rw [upd_ne hcF, upd_ne hcR]
        exact k2 _ _ h1 h2 (s3 _ _ (z4 _ _ h1 h2 h))
      · exact (d2.upd nR1 nR2).upd nF1 nF2
      · rw [List.length_eraseIdx_of_lt hi]
        omega
theorem ok_buttons (B : Bi mg) (D : Df K mg "_law_buttons" (tp 52) ["_law_deck_here", "_law_many"]) (cD : Cal P w K mg base 1 "_law_draw" sp_draw) (cM : Cal P w K mg base 2 "_law_mixed" sp_mixed) : Cal P w K mg base 3 "_law_buttons" sp_buttons := by
  refine D.cal sc_buttons (fun vs H Q E h => ?_) (fun f cdv A outer s H vs Q E hr h => ?_)
  · obtain ⟨d, l, m, rfl, _⟩ := h
    rfl
  have nd := sc_buttons.nd
  obtain ⟨d, l, m, rfl, hD, hm, q⟩ := h
  refine ⟨_, pss_cons (ps_asg (pe_tup (pa_cons (pc cD hr (by decide) (pa_cons (pv 0) (pa_cons pe_int pa_nil))) (pa_cons (pe_op op_add pe_int (pc cD hr (by decide) (pa_cons (pv 0) (pa_cons pe_int pa_nil)))) pa_nil)))
      (pg_tup rfl (pgs_cons (pg_name (i := 2) nd rfl (.inr rfl)) (pgs_cons (pg_name (i := 3) nd rfl (.inr rfl)) pgs_nil))))
    (pss_one (ps_ret (pc cM hr (by decide) (pa_cons (pv 0) (pa_cons
      (pe_lc (own := [("_law_k", 4)]) (g := gName 4) (tt := tYes) rfl nd (pi_range1 (by rfl) B.range (pa_cons (pv 1) pa_nil)) (blkOk_by (N := ["_law_deck_here", "_law_many", "_law_first", "_law_step", "_law_k"]) (sc := defScope (tp 52)) (by decide +kernel))
        (fun _ _ _ _ _ => pg_name (i := 4) nd rfl (Or.inl rfl)) (fun _ _ _ _ _ => pts_nil) (fun _ _ _ _ _ => pe_op op_add (pv 2) (pe_op op_mul (pv 3) (pv 4)))) pa_nil))))), ?_⟩
  refine ⟨.ref d, rfl, d, l, 40, rfl, hD, by decide, by decide, fun r1 H1 a1 a2 k1 d1 => ?_⟩
  refine ⟨.ref d, rfl, d, l, 2, rfl, d1, by decide, by decide, fun r2 H2 b1 b2 k2 d2 => ⟨_, _, rfl, rfl, (by show 2 ≤ sizeLine; decide), fun T hT => ?_⟩⟩
  have s1 := same_new hT (.tup [.int r1, .int (1 + r2)])
  refine ⟨T, _, rfl, sqT upd_same, rfl, _, _, rfl, _, _, rfl, rfl, ?_⟩
  have kT : Kp d l H (upd H2 T (.tup [.int r1, .int (1 + r2)])) := k1.trans (k2.trans (Kp.of s1))
  have dT := d2.same s1
  revert kT dT
  generalize upd H2 T (.tup [.int r1, .int (1 + r2)]) = H3
  intro kT dT
  have hbig : ((m : Nat) : Int) < 2 ^ 62 := by
    have : (100 : Int) < 2 ^ 62 := by decide
    omega
  refine ⟨.ref d, rfl, .int (m : Int), rfl, (m : Int), rfl, by omega, hbig, fun C hC => ?_⟩
  have s2 := same_new hC (.lst [])
  refine lc_range (lo := 0) (n := (m : Int).toNat) (fun i H' => H' = upd H3 C (.lst (((List.range i).map fun (j : Nat) => r1 + (1 + r2) * (0 + (j : Int))).map V.int))) rfl (fun i H' hi hp => ?_) (fun H' hp => ?_)
  · subst hp
    refine ⟨rfl, .int r1, rfl, .int (1 + r2), rfl, .int (0 + (i : Int)), rfl, _, _, rfl, rfl, .inl (small64 (by omega) (by omega)), _, _, rfl, rfl, _, upd_same, lt_size (by simp; omega), ?_⟩
    rw [upd_upd, List.range_succ, List.map_append, List.map_append]
    rfl
  · subst hp
    rw [Int.toNat_natCast]
    refine ⟨d, l, C, _, rfl, dT.same (same_new hC _), upd_same, by simp; omega, fun p ms H4 hp pm k4 d4 h4 => ?_⟩
    have kC : Kp d l H (upd H3 C (.lst (((List.range m).map fun (j : Nat) => r1 + (1 + r2) * (0 + (j : Int))).map V.int))) := kT.trans (Kp.of (same_new hC _))
    refine q p ms H4 (kC.free (dT.same (same_new hC _)) hp) ?_ (by rw [pm.length_eq]; simp) (fun b hb => ?_) (kC.trans k4) d4 h4
    · refine pm.nodup_iff.mpr ?_
      refine List.pairwise_map.mpr (List.pairwise_lt_range.imp fun {i j} hij e => ?_)
      have e1 : (1 + r2) * (0 + (i : Int)) = (1 + r2) * (0 + (j : Int)) := by omega
      have e2 := Int.eq_of_mul_eq_mul_left (show (1 + r2) ≠ 0 by omega) e1
      omega
    · obtain ⟨j, hj, rfl⟩ := List.mem_map.mp (pm.mem_iff.mp hb)
      have hj := List.mem_range.mp hj
      have e1 : 0 ≤ (1 + r2) * (0 + (j : Int)) := Int.mul_nonneg (by omega) (by omega)
      have e2 : (1 + r2) * (0 + (j : Int)) ≤ 2 * (0 + (j : Int)) := Int.mul_le_mul_of_nonneg_right (by omega) (by omega)
      omega
end
end Ks
set_option maxRecDepth 100000
set_option maxHeartbeats 4000000
namespace Ks
open PySem PySem.Spec PyProof.Rows L2
/-! ### nest -/
abbrev nestN : List Str := ["_law_deck_here", "_law_buttons_here", "_law_rest", "_law_deep", "_law_first", "_law_found", "_law_many", "_law_own", "_law_turn"]
theorem sc_nest : FnScope nestN ["_law_deck_here", "_law_buttons_here"] (defScope (tp 53)) := ⟨rfl, rfl, rfl, by decide +kernel, rfl, by decide +kernel, by decide +kernel⟩
def sp_nest : Sp := fun vs H Q _ => ∃ (d l p : Addr) (bs : List Int), vs = [.ref d, .ref p] ∧ Deck H d l ∧ H p = some (.lst (bs.map V.int)) ∧ bs ≠ [] ∧ bs.length ≤ 60 ∧
  ∀ v t H2, Kp d l H H2 → Deck H2 d l → TrAt H2 t v → Nst t → (btns t).Perm bs → dep t ≤ 10 → Q v H2
theorem Kp.updN {d l p : Addr} {H H' : Hp} {o : HO} (k : Kp d l H H') (n : H p = none) : Kp d l H (upd H' p o) := fun c u h1 h2 h => by
  rw [upd_ne (ne_of_none h n)]
  exact k _ _ h1 h2 h
theorem ownT_leaves : ∀ A : List Int, ownT (A.map Tr.leaf) = []
  | [] => rfl
  | a :: r => ownT_leaves r
theorem btns_leaves : ∀ A : List Int, (A.map Tr.leaf).flatMap btns = A
  | [] => rfl
  | a :: r => by rw [List.map_cons, List.flatMap_cons, btns, btns_leaves r]; rfl
theorem dep_leaves : ∀ A : List Int, depL (A.map Tr.leaf) = 0
  | [] => by rw [List.map_nil, depL]
  | a :: r => by rw [List.map_cons, depL, dep, dep_leaves r]; rfl
theorem trs_leaves {H : Hp} : ∀ A : List Int, TrsAt H (A.map Tr.leaf) (A.map V.int)
  | [] => trsAt_nil.mpr rfl
  | a :: r => trsAt_cons.mpr ⟨.int a, r.map V.int, rfl, trAt_leaf.mpr rfl, trs_leaves r⟩
theorem depL_app : ∀ a b : List Tr, depL (a ++ b) = max (depL a) (depL b)
  | [], b => by rw [List.nil_append, depL, Nat.zero_max]
  | p :: r, b => by rw [List.cons_append, depL, depL, depL_app r b, Nat.max_assoc]
/-- the parts of a drawn trip -/
def around (A B : List Int) (t : Tr) : List Tr := A.map Tr.leaf ++ [t] ++ B.map Tr.leaf
theorem around_nst {A B : List Int} {t : Tr} {k : Int} (h : Nst t) (h1 : 1 ≤ k) (h2 : k ≤ (A.length : Int) + 1 + (B.length : Int)) : Nst (.node k (around A B t)) := by
  refine .node (by simp [around]) h1 ?_ (fun p hp => ?_) ?_
  · have : (around A B t).length = A.length + 1 + B.length := by simp [around]; omega
    rw [this]
    omega
  · rcases List.mem_append.mp hp with hp | hp
    · rcases List.mem_append.mp hp with hp | hp
      · obtain ⟨a, _, rfl⟩ := List.mem_map.mp hp
        exact .leaf a
      · rw [List.mem_singleton.mp hp]
        exact h
    · obtain ⟨a, _, rfl⟩ := List.mem_map.mp hp
      exact .leaf a
  · unfold around
    rw [ownT_append, ownT_append, ownT_leaves, ownT_leaves, List.append_nil, List.nil_append]
    cases t with
    | leaf b => exact Nat.zero_le _
    | node k' ps => exact Nat.le_refl _
theorem around_btns (A B : List Int) (t : Tr) (k : Int) : (btns (.node k (around A B t))).Perm (btns t ++ (A ++ B)) := by
  rw [btns_node, around, List.flatMap_append, List.flatMap_append, btns_leaves, btns_leaves, List.flatMap_cons, List.flatMap_nil, List.append_nil]
  exact (List.perm_append_comm.append_right B).trans (by rw [List.append_assoc])
theorem around_dep (A B : List Int) (t : Tr) (k : Int) : dep (.node k (around A B t)) ≤ dep t + 1 := by
  rw [dep_node, around, depL_app, depL_app, dep_leaves, dep_leaves, depL, depL]
  omega
theorem around_at {H : Hp} {A B : List Int} {t : Tr} {v : V} (h : TrAt H t v) : TrsAt H (around A B t) (A.map V.int ++ [v] ++ B.map V.int) := ((trs_leaves A).app (TrsAt.one h)).app (trs_leaves B)
/-- n buttons off the end of rest, into the new list C -/
theorem nest_pops {K : PySem.W.Frag} {d l R C : Addr} {H H1 : Hp} {Qd : Hp → Prop} {s0 s1 s3 s4 s5 s6 s7 s8 : Option V} {rs : List Int} {n : Nat} (hn : n ≤ rs.length) (hs : rs.length ≤ 60) (hR : H R = none) (nR1 : R ≠ d) (nR2 : R ≠ l) (hC : H1 C = none) (h1 : H1 R = some (.lst (rs.map V.int))) (k1 : Kp d l H H1) (d1 : Deck H1 d l) (hCH : H C = none)
    (hd : ∀ H' as bs, rs = as ++ bs → bs.length = n → H' R = some (.lst (as.map V.int)) → H' C = some (.lst (bs.reverse.map V.int)) → Kp d l H H' → TupK H1 H' → Deck H' d l → (∀ b, H' b = none → H b = none) → Qd H') :
    ∃ W : Nat → Nat → Hp → Prop, (∃ m, W 0 m (upd H1 C (.lst []))) ∧ ∀ i m H, W i m H →
      ((Itr 0 n).stop i H ∧ Qd H) ∨ ((Itr 0 n).go i H ∧ ∃ Nx : Hp → Prop, (∀ H', Nx H' → ∃ m', m' < m ∧ W (i + 1) m' H') ∧ ∀ x H', (Itr 0 n).yld i H x H' → gName 8 x (wipe [s0, s1, some (.ref R), s3, s4, s5, s6, s7, s8] [8]) H' fun σ2 H2 => wipe σ2 [8] = wipe [s0, s1, some (.ref R), s3, s4, s5, s6, s7, s8] [8] ∧ tYes σ2 H2 fun b H3 =>
        if b = true then tBM0 K "list" rPop (tVar 2) σ2 H3 fun y H4 => ∃ acc, H4 C = some (.lst acc) ∧ acc.length < sizeLine ∧ Nx (upd H4 C (.lst (acc ++ [y]))) else Nx H3) := by
  have hRC : R ≠ C := ne_of_none h1 hC
  obtain ⟨nC1, nC2⟩ := d1.ne hC
  refine lc_range (fun i H' => ∃ as bs, rs = as ++ bs ∧ bs.length = i ∧ H' R = some (.lst (as.map V.int)) ∧ H' C = some (.lst (bs.reverse.map V.int)) ∧ Kp d l H H' ∧ TupK H1 H' ∧ Deck H' d l)
    ⟨rs, [], by simp, rfl, by rw [upd_ne hRC]; exact h1, upd_same, k1.updN hCH, tupK_new hC, d1.upd nC1 nC2⟩ (fun i H' hi hp => ?_) (fun H' hp => ?_)
  · obtain ⟨as, bs, e, hb, g1, g2, g3, g4, g5⟩ := hp
    have hne : as ≠ [] := by
      intro z
      subst z
      have := congrArg List.length e
      simp at this
      omega
    rcases List.eq_nil_or_concat as with z | ⟨cs, c, z⟩
    · exact absurd z hne
    · have z : as = cs ++ [c] := by simpa using z
      subst z
      have hl : cs.length + 1 + bs.length = rs.length := by
        rw [e]
        simp
        omega
      refine ⟨rfl, .ref R, rfl, .inl ⟨rfl, _, sqL g1⟩, R, _, .int c, rfl, rfl, g1, by simp, ?_⟩
      have g2' : (upd H' R (.lst (((cs ++ [c]).map V.int).dropLast))) C = some (.lst (bs.reverse.map V.int)) := by
        rw [upd_ne (Ne.symm hRC)]
        exact g2
      refine ⟨_, g2', lt_size (by simp; omega), cs, c :: bs, by rw [e]; simp, by simp [hb], ?_, ?_, (g3.updN hR).updN hCH, (g4.trans (tupK_lst g1)).trans (tupK_lst g2'), (g5.upd nR1 nR2).upd nC1 nC2⟩
      · rw [upd_ne hRC, upd_same]
        simp
      · rw [upd_same]
        simp
  · obtain ⟨as, bs, e, hb, g1, g2, g3, g4, g5⟩ := hp
    exact hd H' as bs e hb g1 g2 g3 g4 g5 fun b h => g3.free g5 h
def bodyOf : Stmt → List Stmt
  | .While _ b _ _ => b
  | _ => []
section
variable {P : Program} {w : World} {K : PySem.W.Frag} {mg : Str → Option Value} {base : Heap}
set_option maxHeartbeats 8000000 in
theorem ok_nest (B : Bi mg) (D : Df K mg "_law_nest" (tp 53) ["_law_deck_here", "_law_buttons_here"]) (cD : Cal P w K mg base 1 "_law_draw" sp_draw) (cP : Cal P w K mg base 2 "_law_pick" sp_pick) : Cal P w K mg base 3 "_law_nest" sp_nest := by
  refine D.cal sc_nest (fun vs H Q E h => ?_) (fun f cdv A outer s H vs Q E hr h => ?_)
  · obtain ⟨d, l, p, bs, rfl, _⟩ := h
    rfl
  have nd := sc_nest.nd
  have hu := hr.units
  obtain ⟨d, l, p, bs, rfl, hD, hp, hne, hlen, q⟩ := h
  have h62 : ∀ n : Nat, n ≤ 100 → (n : Int) < 2 ^ 62 := fun n h => by
    have : (100 : Int) < 2 ^ 62 := by decide
    omega
  obtain ⟨tr, hRest, rest⟩ : ∃ tr, PSs (cxOf CX0 P w K mg base nestN "_law_nest" (defScope (tp 53)) f cdv A outer s H E).nox ((bodyOf ((defBody (tp 53)).getD 3 (.Pass ⟨0, 0, 0, 0⟩))).drop 2) tr ∧
      ∀ (D : Ends) (d l p R : Addr) (bs as : List Int) (n : Nat) (dp : Int) (o4 o7 o8 : Option V) (v : V) (t : Tr) (H0 H2 : Hp), H0 R = none → R ≠ d → R ≠ l → bs.length ≤ 60 → H2 R = some (.lst (as.map V.int)) → TrAt H2 t v → Nst t → (btns t ++ as).Perm bs → Kp d l H0 H2 → Deck H2 d l → 1 ≤ dp → dp ≤ 9 → (dep t : Int) ≤ dp → 1 ≤ n → n ≤ as.length → (dp = 9 → n = as.length) →
        (∀ σ' H2, (∃ as' t v dp o4 o6 o7 o8, σ' = [some (.ref d), some (.ref p), some (.ref R), some (.int dp), o4, some v, o6, o7, o8] ∧ H2 R = some (.lst (as'.map V.int)) ∧ TrAt H2 t v ∧ Nst t ∧ (btns t ++ as').Perm bs ∧ Kp d l H0 H2 ∧ Deck H2 d l ∧ 0 ≤ dp ∧ dp ≤ 9 ∧ (as' ≠ [] → dp ≤ 8) ∧ (dep t : Int) ≤ dp + 1 ∧ as'.length < as.length) → D.nx σ' H2) →
        tr D [some (.ref d), some (.ref p), some (.ref R), some (.int dp), o4, some v, some (.int (n : Int)), o7, o8] H2 := by
    refine ⟨_, pss_cons (ps_setLc (i := 7) (own := [("_law_turn", 8)]) (g := gName 8) (tt := tYes) (te := tBM0 K "list" rPop (tVar 2)) (by rfl) nd rfl rfl (sw_true rfl rfl rfl (by decide +kernel))
          (pi_range1 (by rfl) B.range (pa_cons (pv 6) pa_nil))
          (blkOk_by (N := nestN) (sc := defScope (tp 53)) (by decide +kernel)) (fun _ _ _ _ _ => pg_name (i := 8) nd rfl (Or.inl rfl)) (fun _ _ _ _ _ => pts_nil)
          (fun _ _ _ _ _ => pe_bm0 PySem.F.plainAttrs_list PySem.F.slot_list_pop PySem.F.type_list_pop mt_pop (pv 2)))
      (pss_cons (ps_expr (pe_bm PySem.F.plainAttrs_list PySem.F.slot_list_insert PySem.F.type_list_insert mt_insert (pv 7) (pa_cons (pc cD hr (by decide) (pa_cons (pv 0) (pa_cons (pe_op op_add (pv 6) pe_int) pa_nil))) (pa_cons (pv 5) pa_nil))))
      (pss_cons (ps_set (i := 5) nd rfl (.inl rfl) (pe_tup (pa_cons (pe_op op_add pe_int (pc cD hr (by decide) (pa_cons (pv 0) (pa_cons (pe_op op_add (pv 6) pe_int) pa_nil)))) (pa_cons (pe_callTy call_tuple_of (by rfl) B.tuple (by decide +kernel) (pa_cons (pv 7) pa_nil)) pa_nil))))
      (pss_one (ps_if (PW.pt (pw_and (pt_cmpR op_lt (pv 3) pe_int (nomark _)) (pw_and1 (pt_cmpR op_eq (pc cD hr (by decide) (pa_cons (pv 0) (pa_cons pe_int pa_nil))) pe_int (nomark _)))))
        (pss_one (ps_par (i := 5) (j := 3) rfl nd rfl rfl (by decide) rfl rfl (pa_cons (pe_tup (pa_cons pe_int (pa_cons (pe_tup (pa_cons (pv 5) pa_nil)) pa_nil))) (pa_cons (pe_op op_add (pv 3) pe_int) pa_nil)) (by rfl))) pss_nil)))), ?_⟩
    clear q hlen hne hp hD bs p l d
    intro D d l p R bs as n dp o4 o7 o8 v t H0 H2 hR nR1 nR2 hlen hR2 ht hN hperm k2 d2 hdp hdp9 hdep hn1 hn2 hn9 fin
    have hal : (btns t).length + as.length = bs.length := by rw [← List.length_append]; exact hperm.length_eq
    refine ⟨.int (n : Int), rfl, (n : Int), rfl, by omega, h62 n (by omega), fun C hC => ?_⟩
    rw [Int.toNat_natCast]
    have hCH : H0 C = none := k2.free d2 hC
    obtain ⟨nC1, nC2⟩ := d2.ne hC
    have hRC : R ≠ C := ne_of_none hR2 hC
    refine nest_pops hn2 (by omega) hR nR1 nR2 hC hR2 k2 d2 hCH fun H3 as' cs e0 hcs r3 c3 k3 tk3 d3 fr3 => ?_
    have hacs : as'.length + cs.length = as.length := by rw [e0, List.length_append]
    refine ⟨.ref C, rfl, .inl ⟨rfl, _, sqL c3⟩, .ref d, rfl, .int (n : Int), rfl, _, _, rfl, rfl, d, l, _, rfl, d3, by omega, by omega, fun r1 H4 a1 a2 k4 d4 => ?_⟩
    have c4 := k4 _ _ nC1 nC2 c3
    have r4 := k4 _ _ nR1 nR2 r3
    have t4 := (ht.mono tk3).mono (k4.tupK d3)
    refine ⟨v, rfl, C, _, r1, v, rfl, rfl, c4, lt_size (by rw [List.length_map, List.length_reverse]; omega), a1, ?_, ?_⟩
    · have : (1000 : Int) < 2 ^ 63 := by decide
      omega
    obtain ⟨i, rfl⟩ : ∃ i : Nat, r1 = (i : Int) := ⟨r1.toNat, by omega⟩
    rw [Int.toNat_natCast, ← List.map_take, ← List.map_drop]
    have c5 : (upd H4 C (.lst ((cs.reverse.take i).map V.int ++ [v] ++ (cs.reverse.drop i).map V.int))) C = _ := upd_same
    have r5 : (upd H4 C (.lst ((cs.reverse.take i).map V.int ++ [v] ++ (cs.reverse.drop i).map V.int))) R = _ := (upd_ne hRC).trans r4
    have t5 := t4.mono (tupK_lst (o := .lst ((cs.reverse.take i).map V.int ++ [v] ++ (cs.reverse.drop i).map V.int)) c4)
    have k5 : Kp d l H0 (upd H4 C (.lst ((cs.reverse.take i).map V.int ++ [v] ++ (cs.reverse.drop i).map V.int))) := (k3.trans k4).updN hCH
    have d5 := d4.upd (o := .lst ((cs.reverse.take i).map V.int ++ [v] ++ (cs.reverse.drop i).map V.int)) nC1 nC2
    revert c5 r5 t5 k5 d5
    generalize upd H4 C (.lst ((cs.reverse.take i).map V.int ++ [v] ++ (cs.reverse.drop i).map V.int)) = H5
    intro c5 r5 t5 k5 d5
    refine ⟨.ref d, rfl, .int (n : Int), rfl, _, _, rfl, rfl, d, l, _, rfl, d5, by omega, by omega, fun r2 H6 b1 b2 k6 d6 => ?_⟩
    have c6 := k6 _ _ nC1 nC2 c5
    have r6 := k6 _ _ nR1 nR2 r5
    have t6 := t5.mono (k6.tupK d5)
    refine ⟨_, _, rfl, rfl, .ref C, rfl, C, _, rfl, .inl ⟨sqL c6, fun T1 hT1 => ⟨(by show 2 ≤ sizeLine; decide), fun T2 hT2 => ?_⟩⟩⟩
    have s1 := same_new hT1 (.tup ((cs.reverse.take i).map V.int ++ [v] ++ (cs.reverse.drop i).map V.int))
    have s2 := same_new hT2 (.tup [.int (1 + r2), .ref T1])
    have s12 := s1.trans s2
    have hT1' := s2 _ _ (upd_same (H := H6) (a := T1) (o := .tup ((cs.reverse.take i).map V.int ++ [v] ++ (cs.reverse.drop i).map V.int)))
    have hT2' := upd_same (H := upd H6 T1 (.tup ((cs.reverse.take i).map V.int ++ [v] ++ (cs.reverse.drop i).map V.int))) (a := T2) (o := .tup [.int (1 + r2), .ref T1])
    have r7 := s12 _ _ r6
    have t7 := t6.same s12
    have k7 : Kp d l H0 _ := (k5.trans k6).trans (Kp.of s12)
    have d7 := d6.same s12
    revert hT1' hT2' r7 t7 k7 d7
    clear s1 s2 s12 hT2
    generalize upd (upd H6 T1 (.tup ((cs.reverse.take i).map V.int ++ [v] ++ (cs.reverse.drop i).map V.int))) T2 (.tup [.int (1 + r2), .ref T1]) = H7
    intro hT1' hT2' r7 t7 k7 d7
    have hcl : (cs.reverse.take i).length + (cs.reverse.drop i).length = n := by
      rw [← List.length_append, List.take_append_drop, List.length_reverse, hcs]
    have tn : TrAt H7 (.node (1 + r2) (around (cs.reverse.take i) (cs.reverse.drop i) t)) (.ref T2) := trAt_node.mpr ⟨T2, T1, _, rfl, hT2', hT1', around_at t7⟩
    have nn : Nst (.node (1 + r2) (around (cs.reverse.take i) (cs.reverse.drop i) t)) := around_nst hN (by omega) (by omega)
    have pn : (btns (.node (1 + r2) (around (cs.reverse.take i) (cs.reverse.drop i) t)) ++ as').Perm bs := by
      refine List.Perm.trans ?_ hperm
      refine ((around_btns _ _ t _).append_right as').trans ?_
      rw [List.take_append_drop, List.append_assoc, e0]
      refine List.Perm.append_left _ ?_
      exact (List.perm_append_comm).trans ((List.reverse_perm cs).append_left as')
    have dn := around_dep (cs.reverse.take i) (cs.reverse.drop i) t (1 + r2)
    generalize (Tr.node (1 + r2) (around (cs.reverse.take i) (cs.reverse.drop i) t)) = tq at *
    have has : as' ≠ [] → dp ≤ 8 := fun h => by
      by_cases e : dp = 9
      · have := List.length_pos_iff.mpr h
        have := hn9 e
        omega
      · omega
    refine ⟨.int dp, rfl, _, _, rfl, rfl, _, rfl, ?_⟩
    by_cases h8 : dp < 8
    · rw [decide_eq_true h8]
      refine iteT ⟨.ref d, rfl, d, l, 9, rfl, d7, by decide, by decide, fun r3 H8 e1 e2 k8 d8 => ?_⟩
      have r8 := k8 _ _ nR1 nR2 r7
      have t8 := tn.mono (k8.tupK d7)
      refine ⟨rfl, _, rfl, ?_⟩
      show if decide _ = true then _ else _
      split
      · refine ⟨.ref T2, rfl, (by show 1 ≤ sizeLine; decide), fun T3 hT3 => ⟨(by show 2 ≤ sizeLine; decide), fun T4 hT4 => ?_⟩⟩
        have s3 := same_new hT3 (.tup [.ref T2])
        have s4 := same_new hT4 (.tup [.int 1, .ref T3])
        have s34 := s3.trans s4
        refine ⟨.int dp, rfl, _, _, rfl, rfl, _, _, rfl, fin _ _ ⟨as', .node 1 [tq], .ref T4, dp + 1, _, _, _, _, rfl, s34 _ _ r8, trAt_node.mpr ⟨T4, T3, [.ref T2], rfl, upd_same, s4 _ _ upd_same, TrsAt.one (t8.same s34)⟩, ?_, ?_, (k7.trans k8).trans (Kp.of s34), d8.same s34, by omega, by omega, fun _ => by omega, ?_, by omega⟩⟩
        · refine .node (by simp) (by decide) (by show (1 : Int) ≤ ((1 : Nat) : Int); decide) (fun p hp => ?_) ?_
          · rw [List.mem_singleton.mp hp]
            exact nn
          · exact Nat.le_trans (ownT_len _) (Nat.le_refl _)
        · rw [btns_node, List.flatMap_cons, List.flatMap_nil, List.append_nil]
          exact pn
        · rw [dep_node, depL, depL]
          omega
      · exact fin _ _ ⟨as', tq, .ref T2, dp, _, _, _, _, rfl, r8, t8, nn, pn, k7.trans k8, d8, by omega, hdp9, has, by omega, by omega⟩
    · rw [decide_eq_false h8]
      refine iteF ?_
      exact fin _ _ ⟨as', tq, .ref T2, dp, _, _, _, _, rfl, r7, tn, nn, pn, k7, d7, by omega, hdp9, has, by omega, by omega⟩
  obtain ⟨tw, hLoop, loop⟩ : ∃ tw, PS (cxOf CX0 P w K mg base nestN "_law_nest" (defScope (tp 53)) f cdv A outer s H E).nox ((defBody (tp 53)).getD 3 (.Pass ⟨0, 0, 0, 0⟩)) tw ∧
      ∀ (D : Ends) (d l p R : Addr) (bs as : List Int) (dp : Int) (o4 o6 o7 o8 : Option V) (v : V) (t : Tr) (H4 : Hp), H R = none → R ≠ d → R ≠ l → bs.length ≤ 60 → H4 R = some (.lst (as.map V.int)) → TrAt H4 t v → Nst t → (btns t ++ as).Perm bs → Kp d l H H4 → Deck H4 d l → 0 ≤ dp → dp ≤ 8 → (dep t : Int) ≤ dp + 1 →
        (∀ σ' v' t' H5, σ'[5]? = some (some v') → TrAt H5 t' v' → Nst t' → (btns t').Perm bs → dep t' ≤ 10 → Kp d l H H5 → Deck H5 d l → D.nx σ' H5) → tw D [some (.ref d), some (.ref p), some (.ref R), some (.int dp), o4, some v, o6, o7, o8] H4 := by
    refine ⟨_, ps_while PassesOwn.never (pt_cmpR (op_neD hu) (pv 2) (pe_lst pa_nil) (by rfl))
      (pss_cons (ps_set (i := 3) nd rfl (.inl rfl) (pe_op op_add (pv 3) pe_int))
      (pss_cons (ps_set (i := 6) nd rfl (.inl rfl) (pe_ifExp (pt_cmpR op_gt (pv 3) pe_int (nomark _)) (p_len B.len (pv 2))
          (pe_callB (call_min2 rfl) (by rfl) B.min PyProof.Rows.boot_min (pa_cons (p_len B.len (pv 2)) (pa_cons (pc cP hr (by decide) (pa_cons (pv 0) (pa_cons (pe_lst (pa_cons pe_int (pa_cons pe_int (pa_cons pe_int (pa_cons pe_int (pa_cons pe_int pa_nil)))))) pa_nil))) pa_nil)))))
      hRest)), ?_⟩
    clear q hlen hne hp hD bs p l d
    intro D d l p R bs as dp o4 o6 o7 o8 v t H4 hR nR1 nR2 hlen hR4 ht hN hperm k4 d4 hdp hdp8 hdep fin
    refine ⟨fun m σ H' => ∃ as t v dp o4 o6 o7 o8, σ = [some (.ref d), some (.ref p), some (.ref R), some (.int dp), o4, some v, o6, o7, o8] ∧ H' R = some (.lst (as.map V.int)) ∧ TrAt H' t v ∧ Nst t ∧ (btns t ++ as).Perm bs ∧ Kp d l H H' ∧ Deck H' d l ∧ 0 ≤ dp ∧ dp ≤ 9 ∧ (as ≠ [] → dp ≤ 8) ∧ (dep t : Int) ≤ dp + 1 ∧ m = as.length,
      ⟨_, as, t, v, dp, o4, o6, o7, o8, rfl, hR4, ht, hN, hperm, k4, d4, hdp, by omega, fun _ => hdp8, hdep, rfl⟩, ?_⟩
    rintro m σ H' ⟨as, t, v, dp, o4, o6, o7, o8, rfl, z1, z2, z3, z4, z5, z6, z7, z8, z9, z10, rfl⟩
    refine ⟨.ref R, rfl, ?_⟩
    refine rd_ne (xs := as.map V.int) z1 (fun H' _ => dp_ints as) (shaped_ints as) fun e1 he1 => ⟨_, rfl, ?_⟩
    have s3 := same_new he1 (.lst [])
    by_cases hne : as = []
    · subst hne
      rw [List.append_nil] at z4
      exact iteF (fin _ v t _ rfl (z2.same s3) z3 z4 (by omega) (z5.trans (Kp.of s3)) (z6.same s3))
    · have hemp : (!(as.map V.int).isEmpty) = true := by
        cases as with
        | nil => exact absurd rfl hne
        | cons _ _ => rfl
      rw [hemp]
      have hpos : 0 < as.length := List.length_pos_iff.mpr hne
      have hal : (btns t).length + as.length = bs.length := by rw [← List.length_append]; exact z4.length_eq
      have hdp8 := z9 hne
      refine iteT ⟨fun σ' H2 => ∃ as' t v dp o4 o6 o7 o8, σ' = [some (.ref d), some (.ref p), some (.ref R), some (.int dp), o4, some v, o6, o7, o8] ∧ H2 R = some (.lst (as'.map V.int)) ∧ TrAt H2 t v ∧ Nst t ∧ (btns t ++ as').Perm bs ∧ Kp d l H H2 ∧ Deck H2 d l ∧ 0 ≤ dp ∧ dp ≤ 9 ∧ (as' ≠ [] → dp ≤ 8) ∧ (dep t : Int) ≤ dp + 1 ∧ as'.length < as.length, ?_, ?_⟩
      · rintro σ' H2 ⟨as', t', v', dp', p4, p6, p7, p8, y1, y2, y3, y4, y5, y6, y7, y8, y9, y10, y11, y12⟩
        exact ⟨_, y12, as', t', v', dp', p4, p6, p7, p8, y1, y2, y3, y4, y5, y6, y7, y8, y9, y10, y11, rfl⟩
      have ht1 := z2.same s3
      have hR1 := s3 _ _ z1
      have k1 := z5.trans (Kp.of s3)
      have d1 := z6.same s3
      revert ht1 hR1 k1 d1
      generalize upd H' e1 (.lst []) = H1
      intro ht1 hR1 k1 d1
      refine ⟨.int dp, rfl, _, _, rfl, rfl, ?_⟩
      -- how many
      have done : ∀ (n : Nat) (H2 : Hp), H2 R = some (.lst (as.map V.int)) → TrAt H2 t v → Kp d l H H2 → Deck H2 d l → 1 ≤ n → n ≤ as.length → (dp + 1 = 9 → n = as.length) →
          tr { D with nx := (fun σ' H2 => ∃ as' t v dp o4 o6 o7 o8, σ' = [some (.ref d), some (.ref p), some (.ref R), some (.int dp), o4, some v, o6, o7, o8] ∧ H2 R = some (.lst (as'.map V.int)) ∧ TrAt H2 t v ∧ Nst t ∧ (btns t ++ as').Perm bs ∧ Kp d l H H2 ∧ Deck H2 d l ∧ 0 ≤ dp ∧ dp ≤ 9 ∧ (as' ≠ [] → dp ≤ 8) ∧ (dep t : Int) ≤ dp + 1 ∧ as'.length < as.length), ct := (fun σ' H2 => ∃ as' t v dp o4 o6 o7 o8, σ' = [some (.ref d), some (.ref p), some (.ref R), some (.int dp), o4, some v, o6, o7, o8] ∧ H2 R = some (.lst (as'.map V.int)) ∧ TrAt H2 t v ∧ Nst t ∧ (btns t ++ as').Perm bs ∧ Kp d l H H2 ∧ Deck H2 d l ∧ 0 ≤ dp ∧ dp ≤ 9 ∧ (as' ≠ [] → dp ≤ 8) ∧ (dep t : Int) ≤ dp + 1 ∧ as'.length < as.length), bk := D.nx } [some (.ref d), some (.ref p), some (.ref R), some (.int (dp + 1)), o4, some v, some (.int (n : Int)), o7, o8] H2 :=
        fun n H2 h1 h2 h3 h4 h5 h6 h7 => rest _ d l p R bs as n (dp + 1) o4 o7 o8 v t H H2 hR nR1 nR2 hlen h1 h2 z3 z4 h3 h4 (by omega) (by omega) (by omega) h5 h6 h7 fun σ' H2 h => h
      refine ⟨.int (dp + 1), rfl, _, _, rfl, rfl, _, rfl, ?_⟩
      by_cases h9 : 8 < dp + 1
      · rw [decide_eq_true h9]
        refine iteT ⟨.ref R, rfl, R, _, rfl, .inl (sqL hR1), ?_⟩
        have := done as.length H1 hR1 ht1 k1 d1 hpos (Nat.le_refl _) fun _ => rfl
        rw [List.length_map]
        exact this
      · rw [decide_eq_false h9]
        refine iteF ⟨.ref R, rfl, R, _, rfl, .inl (sqL hR1), .ref d, rfl, (by show 5 ≤ sizeLine; decide), fun I1 hI1 => ?_⟩
        have s4 := same_new hI1 (.lst [.int 1, .int 1, .int 1, .int 2, .int 3])
        obtain ⟨nI1, nI2⟩ := d1.ne hI1
        refine ⟨d, l, I1, [1, 1, 1, 2, 3], rfl, d1.same s4, upd_same, nI1, nI2, by decide, by decide, fun r H2 hr2 k2 d2 => ⟨_, _, rfl, ?_⟩⟩
        have hr3 : 1 ≤ r := by
          simp at hr2
          omega
        have hR2 := k2 _ _ nR1 nR2 (s4 _ _ hR1)
        have ht2 := (ht1.same s4).mono (k2.tupK (d1.same s4))
        have k12 := k1.trans ((Kp.of s4).trans k2)
        obtain ⟨n, hn1, hn2, hn3⟩ : ∃ n : Nat, (if r < (((as.map V.int).length : Nat) : Int) then r else (((as.map V.int).length : Nat) : Int)) = (n : Int) ∧ 1 ≤ n ∧ n ≤ as.length := by
          rw [List.length_map]
          split
          · exact ⟨r.toNat, by omega, by omega, by omega⟩
          · exact ⟨as.length, rfl, hpos, Nat.le_refl _⟩
        rw [hn1]
        exact done n H2 hR2 ht2 k12 d2 hn2 hn3 fun e => by omega
  refine ⟨_, pss_cons (ps_asg (pe_tup (pa_cons (pe_callTy call_list_of (by rfl) B.list (by decide +kernel) (pa_cons (pv 1) pa_nil)) (pa_cons pe_int pa_nil)))
      (pg_tup rfl (pgs_cons (pg_name (i := 2) nd rfl (.inr rfl)) (pgs_cons (pg_name (i := 3) nd rfl (.inl rfl)) pgs_nil))))
    (pss_cons (ps_setLc (i := 4) (own := [("_law_turn", 8)]) (g := gName 8) (tt := tYes) (te := tBM0 K "list" rPop (tVar 2)) (by rfl) nd rfl rfl (sw_true rfl rfl rfl (by decide +kernel))
        (pi_range1 (by rfl) B.range (pa_cons (pe_callB (call_min2 rfl) (by rfl) B.min PyProof.Rows.boot_min (pa_cons (p_len B.len (pv 2)) (pa_cons (pe_op op_add pe_int (pc cD hr (by decide) (pa_cons (pv 0) (pa_cons pe_int pa_nil)))) pa_nil))) pa_nil))
        (blkOk_by (N := nestN) (sc := defScope (tp 53)) (by decide +kernel)) (fun _ _ _ _ _ => pg_name (i := 8) nd rfl (Or.inl rfl)) (fun _ _ _ _ _ => pts_nil)
        (fun _ _ _ _ _ => pe_bm0 PySem.F.plainAttrs_list PySem.F.slot_list_pop PySem.F.type_list_pop mt_pop (pv 2)))
    (pss_cons (ps_set (i := 5) nd rfl (.inl rfl) (pe_ifExp (pt_cmpR op_eq (p_len B.len (pv 4)) pe_int (nomark _)) (pe_ix ix_list (pv 4) pe_int (fun _ _ => rfl))
        (pe_tup (pa_cons (pe_op op_add pe_int (pc cD hr (by decide) (pa_cons (pv 0) (pa_cons (p_len B.len (pv 4)) pa_nil)))) (pa_cons (pe_callTy call_tuple_of (by rfl) B.tuple (by decide +kernel) (pa_cons (pv 4) pa_nil)) pa_nil)))))
    (pss_cons hLoop
    (pss_one (ps_ret (pv 5)))))), ?_⟩
  refine ⟨.ref p, rfl, p, _, rfl, .inl (sqL hp), fun R hR => ⟨(by show 2 ≤ sizeLine; decide), fun T0 hT0 => ⟨T0, _, rfl, sqT upd_same, rfl, _, _, rfl, _, _, rfl, rfl, ?_⟩⟩⟩
  have s1 := same_new hR (.lst (bs.map V.int))
  have s2 := same_new hT0 (.tup [.ref R, .int 0])
  obtain ⟨nR1, nR2⟩ := hD.ne hR
  have hR1 := s2 _ _ (upd_same (H := H) (a := R) (o := .lst (bs.map V.int)))
  have sH1 := s1.trans s2
  have k1 : Kp d l H _ := Kp.of sH1
  have d1 := hD.same sH1
  revert hR1 sH1 k1 d1
  generalize upd (upd H R (.lst (bs.map V.int))) T0 (.tup [.ref R, .int 0]) = H1
  intro hR1 sH1 k1 d1
  have hpos : 0 < bs.length := List.length_pos_iff.mpr hne
  refine ⟨.ref R, rfl, R, _, rfl, .inl (sqL hR1), .ref d, rfl, d, l, 3, rfl, d1, by decide, by decide, fun r1 H2 a1 a2 k2 d2 => ⟨_, _, rfl, rfl, _, _, rfl, ?_⟩⟩
  obtain ⟨n, hn1, hn2, hn3⟩ : ∃ n : Nat, (if 1 + r1 < (((bs.map V.int).length : Nat) : Int) then 1 + r1 else (((bs.map V.int).length : Nat) : Int)) = (n : Int) ∧ 1 ≤ n ∧ n ≤ bs.length := by
    rw [List.length_map]
    split
    · exact ⟨(1 + r1).toNat, by omega, by omega, by omega⟩
    · exact ⟨bs.length, rfl, by omega, Nat.le_refl _⟩
  have h62 : ∀ n : Nat, n ≤ 100 → (n : Int) < 2 ^ 62 := fun n h => by
    have : (100 : Int) < 2 ^ 62 := by decide
    omega
  refine ⟨(n : Int), by rw [← hn1], by omega, h62 n (by omega), fun C hC => ?_⟩
  rw [Int.toNat_natCast]
  have k12 := k1.trans k2
  have hCH : H C = none := k12.free d2 hC
  refine nest_pops hn3 hlen hR nR1 nR2 hC (k2 _ _ nR1 nR2 hR1) k12 d2 hCH fun H3 as fs e0 hfs r3 c3 k3 tk3 d3 fr3 => ?_
  have hper : (as ++ fs).Perm bs := by rw [e0]
  have hln : as.length + fs.length = bs.length := by rw [e0, List.length_append]
  have start : ∀ (v : V) (t : Tr) (H4 : Hp) (o6 o7 o8 : Option V), TrAt H4 t v → Nst t → (btns t).Perm fs → dep t ≤ 1 → Kp d l H H4 → Deck H4 d l → H4 R = some (.lst (as.map V.int)) → tw { nx := tRet (tVar 5) { nx := fun _ H' => Q .non H', rt := Q }, rt := Q } [some (.ref d), some (.ref p), some (.ref R), some (.int 0), some (.ref C), some v, o6, o7, o8] H4 :=
    fun v t H4 o6 o7 o8 ht hN hpt hdt k4 d4 hR4 => loop _ d l p R bs as 0 (some (.ref C)) o6 o7 o8 v t H4 hR nR1 nR2 hlen hR4 ht hN ((hpt.append_right as).trans (List.perm_append_comm.trans hper)) k4 d4 (Int.le_refl _) (by decide) (by omega)
      fun σ' v' t' H5 hv ht' hN' hp' hd' k5 d5 => ⟨v', hv, q v' t' H5 k5 d5 ht' hN' hp' hd'⟩
  refine ⟨.ref C, rfl, C, _, rfl, .inl (sqL c3), rfl, _, rfl, ?_⟩
  rw [ev_int, List.length_map, List.length_reverse, hfs]
  by_cases e1 : n = 1
  · subst e1
    match fs, hfs with
    | [b], _ =>
      refine iteT ⟨.ref C, rfl, C, _, 0, .int b, rfl, rfl, sqL c3, atI_nat (j := 0) rfl, ?_⟩
      exact start (.int b) (.leaf b) H3 _ _ _ (trAt_leaf.mpr rfl) (.leaf b) (by rw [btns]) (by rw [dep]; exact Nat.zero_le _) k3 d3 r3
  · rw [decide_eq_false (by omega)]
    refine iteF ⟨.ref d, rfl, .ref C, rfl, C, _, rfl, .inl (sqL c3), d, l, _, rfl, d3, by rw [List.length_map, List.length_reverse]; omega, by rw [List.length_map, List.length_reverse]; omega, fun r2 H4 b1 b2 k4 d4 => ⟨_, _, rfl, rfl, ?_⟩⟩
    rw [List.length_map, List.length_reverse, hfs] at b2
    obtain ⟨nC1, nC2⟩ := d2.ne hC
    have c4 := k4 _ _ nC1 nC2 c3
    have r4 := k4 _ _ nR1 nR2 r3
    refine ⟨.ref C, rfl, C, _, rfl, .inl ⟨sqL c4, fun T1 hT1 => ⟨(by show 2 ≤ sizeLine; decide), fun T2 hT2 => ?_⟩⟩⟩
    have s3 := same_new hT1 (.tup (fs.reverse.map V.int))
    have s4 := same_new hT2 (.tup [.int (1 + r2), .ref T1])
    have s34 := s3.trans s4
    refine start (.ref T2) (.node (1 + r2) (fs.reverse.map Tr.leaf)) _ _ _ _ (trAt_node.mpr ⟨T2, T1, _, rfl, upd_same, s4 _ _ upd_same, trs_leaves _⟩) ?_ ?_ ?_ (k3.trans (k4.trans (Kp.of s34))) (d4.same s34) (s34 _ _ r4)
    · refine .node (fun z => ?_) (by omega) (by rw [List.length_map, List.length_reverse, hfs]; omega) (fun p hp => ?_) (by rw [ownT_leaves]; exact Nat.zero_le _)
      · have := congrArg List.length z
        rw [List.length_map, List.length_reverse, hfs] at this
        simp at this
        omega
      · obtain ⟨a, _, rfl⟩ := List.mem_map.mp hp
        exact .leaf a
    · rw [btns_node, btns_leaves]
      exact List.reverse_perm fs
    · rw [dep_node, dep_leaves]
      exact Nat.le_refl _
end
end Ks
set_option maxRecDepth 100000
set_option maxHeartbeats 4000000
namespace Ks
open PySem PySem.Spec PyProof.Rows L2
/-! ### least, reduced -/
theorem sc_lleast : FnScope ["_law_tree", "_law_part"] ["_law_tree"] (defScope (tp 54)) := ⟨rfl, rfl, rfl, by decide +kernel, rfl, by decide +kernel, by decide +kernel⟩
theorem sc_reduced : FnScope ["_law_tree", "_law_part", "_law_bound", "_law_parts", "_law_flat", "_law_is_one", "_law_is_all", "_law_is_trip"] ["_law_tree"] (defScope (tp 55)) := ⟨rfl, rfl, rfl, by decide +kernel, rfl, by decide +kernel, by decide +kernel⟩
def sp_lleast (n : Nat) : Sp := fun vs H Q _ => ∃ (v : V) (t : Tr), vs = [v] ∧ TrAt H t v ∧ Red t ∧ (btns t).length ≤ 60 ∧ dep t < n ∧ ∀ H2, Same H H2 → Q (.int (fst t)) H2
def sp_reduced (n : Nat) : Sp := fun vs H Q _ => ∃ (v : V) (t : Tr), vs = [v] ∧ TrAt H t v ∧ Nst t ∧ (btns t).length ≤ 60 ∧ dep t < n ∧ n ≤ 16 ∧ ∀ v' H2, Same H H2 → TrAt H2 (red t) v' → Q v' H2
theorem rd_like {K : PySem.W.Frag} {σ : L2.St} {H : Hp} {x : V} {t : Tr} {k : Int} {n : Nat} {Q : Bool → Hp → Prop} (h1 : σ[1]? = some (some x)) (h5 : σ[5]? = some (some (.bl (decide (k = 1))))) (h6 : σ[6]? = some (some (.bl (decide (k = (n : Int)))))) (h7 : σ[7]? = some (some (.bl (!t.isL)))) (ht : TrAt H t x) (q : Q (like k n t) H) :
    tAnd (tB (tVar 7)) (tOr (tAnd (tB (tVar 5)) (tTest (tOp rEq (tOp (rIxT K) (tVar 1) (tC (.int 0))) (tC (.int 1))))) (tAnd (tB (tVar 6)) (tTest (tOp rEq (tOp (rIxT K) (tVar 1) (tC (.int 0))) (tLen K (tOp (rIxT K) (tVar 1) (tC (.int 1)))))))) σ H Q := by
  refine ⟨_, h7, _, rfl, ?_⟩
  cases t with
  | leaf b => exact iteF q
  | node k' ps =>
    obtain ⟨a, c, us, rfl, g1, g2, g3⟩ := trAt_node.mp ht
    have hl := g3.len
    refine iteT ⟨_, h5, _, rfl, ?_⟩
    have second : ∀ Q' : Bool → Hp → Prop, Q' (decide (k = (n : Int)) && decide (k' = (ps.length : Int))) H → tAnd (tB (tVar 6)) (tTest (tOp rEq (tOp (rIxT K) (tVar 1) (tC (.int 0))) (tLen K (tOp (rIxT K) (tVar 1) (tC (.int 1)))))) σ H Q' := fun Q' q' => by
      refine ⟨_, h6, _, rfl, ?_⟩
      by_cases e : k = (n : Int)
      · rw [decide_eq_true e] at q' ⊢
        refine iteT ⟨_, h1, a, _, 0, .int k', rfl, rfl, sqT g1, atI_nat (j := 0) rfl, _, h1, a, _, 1, .ref c, rfl, rfl, sqT g1, atI_nat (j := 1) rfl, c, us, rfl, .inr (sqT g2), rfl, _, rfl, ?_⟩
        rw [ev_int, hl]
        exact q'
      · rw [decide_eq_false e] at q' ⊢
        exact iteF q'
    by_cases e1 : k = 1
    · rw [decide_eq_true e1]
      refine iteT ⟨_, h1, a, _, 0, .int k', rfl, rfl, sqT g1, atI_nat (j := 0) rfl, rfl, _, rfl, ?_⟩
      rw [ev_int]
      by_cases e2 : k' = 1
      · rw [decide_eq_true e2]
        refine iteT ?_
        have : like k n (.node k' ps) = true := by simp [like, e1, e2]
        rw [this] at q
        exact q
      · rw [decide_eq_false e2]
        refine iteF (second _ ?_)
        have : like k n (.node k' ps) = (decide (k = (n : Int)) && decide (k' = (ps.length : Int))) := by simp [like, e2]
        rw [this] at q
        exact q
    · rw [decide_eq_false e1]
      refine iteF (iteF (second _ ?_))
      have : like k n (.node k' ps) = (decide (k = (n : Int)) && decide (k' = (ps.length : Int))) := by simp [like, e1]
      rw [this] at q
      exact q
section
variable {P : Program} {w : World} {K : PySem.W.Frag} {mg : Str → Option Value} {base : Heap}
theorem lleast_step {n j : Nat} (B : Bi mg) (D : Df K mg "_law_least" (tp 54) ["_law_tree"]) (cR : Cal P w K mg base j "_law_least" (sp_lleast n)) : Cal P w K mg base (j + 1) "_law_least" (sp_lleast (n + 1)) := by
  refine D.cal sc_lleast (fun vs H Q E h => ?_) (fun f cdv A outer s H vs Q E hr h => ?_)
  · obtain ⟨v, t, rfl, _⟩ := h
    rfl
  have nd := sc_lleast.nd
  obtain ⟨v, t, rfl, ht, hR, hl, hd, q⟩ := h
  refine ⟨_, pss_one (ps_ret (pe_ifExp (pt_val (pe_callB call_isi (by rfl) B.isinstance (by decide +kernel) (pa_cons (pv 0) (pa_cons (pe_bltn (v := .ty "int") (by rfl) B.int (by decide +kernel) rfl) pa_nil)))) (pv 0)
    (pe_callB (cr_min rfl) (by rfl) B.min PyProof.Rows.boot_min (pa_cons
      (pe_lc (own := [("_law_part", 1)]) (g := gName 1) (tt := tYes) rfl nd (pi_tup (pe_ix ix_tup (pv 0) pe_int (fun _ _ => rfl))) (blkOk_by (N := ["_law_tree", "_law_part"]) (sc := defScope (tp 54)) (by decide +kernel))
        (fun _ _ _ _ _ => pg_name (i := 1) nd rfl (Or.inl rfl)) (fun _ _ _ _ _ => pts_nil) (fun _ _ _ _ _ => pc cR hr (Nat.le_refl _) (pa_cons (pv 1) pa_nil))) pa_nil)))), ?_⟩
  refine ⟨v, rfl, v, .ty "int", _, _, _, rfl, .ty _, ht.tyX, kit_int t, _, rfl, ?_⟩
  cases t with
  | leaf b =>
    refine iteT ⟨v, rfl, ?_⟩
    rw [trAt_leaf.mp ht]
    exact q H (Same.refl H)
  | node k ps =>
    obtain ⟨a, c, us, rfl, h1, h2, h3⟩ := trAt_node.mp ht
    have hul := h3.len
    have hpl := reds_len hR.parts
    rw [btns_node] at hl
    refine iteF ⟨.ref a, rfl, a, _, 1, .ref c, rfl, rfl, sqT h1, atI_nat (j := 1) rfl, c, rfl, ⟨us, sqT h2⟩, fun F hF => ?_⟩
    refine lc_tup (xs := us) (fun i H' => H' F = some (.lst (((ps.take i).map fst).map V.int)) ∧ Same H H') ⟨upd_same, same_new hF _⟩ (fun i H' _ hp => ?_) (fun i x H' hx hp => ?_) (fun H' hp => ?_)
    · exact sqT (hp.2 _ _ h2)
    · obtain ⟨g1, g2⟩ := hp
      have hi : i < ps.length := by
        have := (List.getElem?_eq_some_iff.mp hx).1
        omega
      obtain ⟨x', e, hxt⟩ := h3.get (i := i) (List.getElem?_eq_getElem hi)
      rw [hx] at e
      cases e
      have hm : ps[i] ∈ ps := List.getElem_mem hi
      have h5 := part_len hm
      have h6 := dep_mem hm
      rw [dep_node] at hd
      refine ⟨rfl, x, rfl, x, ps[i], rfl, hxt.same g2, hR.parts _ hm, by omega, by omega, fun H2 e2 => ⟨_, e2 _ _ g1, lt_size (by simp; omega), ?_, Same.upd' (g2.trans e2) hF⟩⟩
      rw [upd_same, List.take_succ_eq_append_getElem hi, List.map_append, List.map_append]
      rfl
    · obtain ⟨g1, g2⟩ := hp
      rw [hul, List.take_length] at g1
      have h2l := hR.len.1
      refine ⟨F, ps.map fst, rfl, sqL g1, by rw [List.length_map]; omega, fun m hm hmin => ?_⟩
      have e : m = fst (.node k ps) := by
        cases hR with
        | node _ _ _ _ _ hs =>
          cases ps with
          | nil => simp at h2l
          | cons p r =>
            have a1 : m ≤ fst p := hmin _ (by simp)
            obtain ⟨x, hx, rfl⟩ := List.mem_map.mp hm
            rcases List.mem_cons.mp hx with rfl | hx
            · rfl
            · have := (List.pairwise_cons.mp hs).1 x hx
              show fst x = fst p
              omega
      rw [e]
      exact q H' g2
theorem ok_lleast (B : Bi mg) (D : Df K mg "_law_least" (tp 54) ["_law_tree"]) : ∀ n, Cal P w K mg base n "_law_least" (sp_lleast n)
  | 0 => D.never fun vs H Q E h => by
    obtain ⟨v, t, _, _, _, _, hd, _⟩ := h
    exact absurd hd (Nat.not_lt_zero _)
  | n + 1 => lleast_step B D (ok_lleast B D n)
set_option maxHeartbeats 8000000 in
theorem reduced_step {n j : Nat} (B : Bi mg) (D : Df K mg "_law_reduced" (tp 55) ["_law_tree"]) (cL : Cal P w K mg base 16 "_law_least" (sp_lleast 16)) (cR : Cal P w K mg base j "_law_reduced" (sp_reduced n)) (hj : 18 ≤ j) : Cal P w K mg base (j + 1) "_law_reduced" (sp_reduced (n + 1)) := by
  refine D.cal sc_reduced (fun vs H Q E h => ?_) (fun f cdv A outer s H vs Q E hr h => ?_)
  · obtain ⟨v, t, rfl, _⟩ := h
    rfl
  have nd := sc_reduced.nd
  obtain ⟨v, t, rfl, ht, hN, hb, hd, hn16, q⟩ := h
  obtain ⟨g, fd, ps0, F0, hm, kp, bd⟩ := cL.ex
  refine ⟨_, pss_cons (ps_if (pt_val (pe_callB call_isi (by rfl) B.isinstance (by decide +kernel) (pa_cons (pv 0) (pa_cons (pe_bltn (v := .ty "int") (by rfl) B.int (by decide +kernel) rfl) pa_nil)))) (pss_one (ps_ret (pv 0))) pss_nil)
    (pss_cons (ps_par (i := 2) (j := 3) rfl nd rfl rfl (by decide) rfl rfl (pa_cons (pe_ix ix_tup (pv 0) pe_int (fun _ _ => rfl)) (pa_cons
      (pe_lc (own := [("_law_part", 1)]) (g := gName 1) (tt := tYes) rfl nd (pi_tup (pe_ix ix_tup (pv 0) pe_int (fun _ _ => rfl))) (blkOk_by (N := ["_law_tree", "_law_part", "_law_bound", "_law_parts", "_law_flat", "_law_is_one", "_law_is_all", "_law_is_trip"]) (sc := defScope (tp 55)) (by decide +kernel))
        (fun _ _ _ _ _ => pg_name (i := 1) nd rfl (Or.inl rfl)) (fun _ _ _ _ _ => pts_nil) (fun _ _ _ _ _ => pc cR hr (Nat.le_refl _) (pa_cons (pv 1) pa_nil))) pa_nil)) (by rfl))
    (pss_cons (ps_if (pt_cmpR op_eq (p_len B.len (pv 3)) pe_int (nomark _)) (pss_one (ps_ret (pe_ix ix_list (pv 3) pe_int (fun _ _ => rfl)))) pss_nil)
    (pss_cons (ps_par3 (i := 4) (j := 5) (l := 6) rfl nd rfl rfl rfl (by decide) (by decide) (by decide) rfl rfl rfl (pa_cons (pe_lst pa_nil) (pa_cons (pe_cmpR op_eq (pv 2) pe_int (nomark _)) (pa_cons (pe_cmpR op_eq (pv 2) (p_len B.len (pv 3)) (nomark _)) pa_nil))) (by rfl))
    (pss_cons (ps_for PassesOwn.never rfl (pi_list (pv 3)) (pg_name (i := 1) nd rfl (.inl rfl))
      (pss_cons (ps_set (i := 7) nd rfl (.inl rfl) (pe_not (pe_callB call_isi (by rfl) B.isinstance (by decide +kernel) (pa_cons (pv 1) (pa_cons (pe_bltn (v := .ty "int") (by rfl) B.int (by decide +kernel) rfl) pa_nil)))))
      (pss_one (ps_if (PW.pt (pw_and (pt_val (pv 7)) (pw_and1 (PW.pt (pw_or (PW.pt (pw_and (pt_val (pv 5)) (pw_and1 (pt_cmpR op_eq (pe_ix ix_tup (pv 1) pe_int (fun _ _ => rfl)) pe_int (nomark _)))))
            (pw_or1 (PW.pt (pw_and (pt_val (pv 6)) (pw_and1 (pt_cmpR op_eq (pe_ix ix_tup (pv 1) pe_int (fun _ _ => rfl)) (p_len B.len (pe_ix ix_tup (pv 1) pe_int (fun _ _ => rfl))) (nomark _)))))))))))
        (pss_one (ps_expr (pe_bm PySem.F.plainAttrs_list PySem.F.slot_list_extend PySem.F.type_list_extend mt_extend (pv 4) (pa_cons (pe_callTy call_list_of (by rfl) B.list (by decide +kernel) (pa_cons (pe_ix ix_tup (pv 1) pe_int (fun _ _ => rfl)) pa_nil)) pa_nil))))
        (pss_one (ps_expr (pe_bm PySem.F.plainAttrs_list PySem.F.slot_list_append PySem.F.type_list_append mt_append (pv 4) (pa_cons (pv 1) pa_nil))))))))
    (pss_one (ps_ret (pe_tup (pa_cons (pe_ifExp (pt_val (pv 6)) (p_len B.len (pv 4)) (pv 2))
      (pa_cons (pe_callTy call_tuple_of (by rfl) B.tuple (by decide +kernel) (pa_cons
        (pe_callBK (cr_srtF (F0.mono (Nat.le_refl _)) (hr.mono hj) bd) (by rfl) B.sorted (by decide +kernel) (pa_cons (pv 4) pa_nil) (pk_cons (pe_glob (v := .ref g) (by rfl) hm rfl) pk_nil)) pa_nil)) pa_nil))))))))), ?_⟩
  refine ⟨v, rfl, v, .ty "int", _, _, _, rfl, .ty _, ht.tyX, kit_int t, _, rfl, ?_⟩
  cases t with
  | leaf b =>
    refine iteT ⟨v, rfl, q v H (Same.refl H) ?_⟩
    rw [red_leaf]
    exact ht
  | node k ps =>
  obtain ⟨a, c, us, rfl, h1, h2, h3⟩ := trAt_node.mp ht
  have hul := h3.len
  cases hN with
  | node n0 n1 n2 np n3 =>
  have hpl := nsts_len np
  rw [btns_node] at hb
  refine iteF ⟨.ref a, rfl, a, _, 0, .int k, rfl, rfl, sqT h1, atI_nat (j := 0) rfl, .ref a, rfl, a, _, 1, .ref c, rfl, rfl, sqT h1, atI_nat (j := 1) rfl, c, rfl, ⟨us, sqT h2⟩, fun M hM => ?_⟩
  refine lc_tup (xs := us) (fun i H' => ∃ ys, H' M = some (.lst ys) ∧ Same H H' ∧ TrsAt H' ((ps.take i).map red) ys) ⟨[], upd_same, same_new hM _, trsAt_nil.mpr rfl⟩ (fun i H' _ hp => ?_) (fun i x H' hx hp => ?_) (fun H1 hp => ?_)
  · obtain ⟨ys, g1, g2, g3⟩ := hp
    exact sqT (g2 _ _ h2)
  · obtain ⟨ys, g1, g2, g3⟩ := hp
    have hi : i < ps.length := by
      have := (List.getElem?_eq_some_iff.mp hx).1
      omega
    obtain ⟨x', e, hxt⟩ := h3.get (i := i) (List.getElem?_eq_getElem hi)
    rw [hx] at e
    cases e
    have hm : ps[i] ∈ ps := List.getElem_mem hi
    have h5 := part_len hm
    have h6 := dep_mem hm
    rw [dep_node] at hd
    refine ⟨rfl, x, rfl, x, ps[i], rfl, hxt.same g2, np _ hm, by omega, by omega, by omega, fun v' H2 e2 ht2 => ?_⟩
    have hyl := g3.len
    refine ⟨ys, e2 M _ g1, lt_size (by rw [hyl, List.length_map, List.length_take]; omega), ys ++ [v'], upd_same, Same.upd' (g2.trans e2) hM, ?_⟩
    rw [List.take_succ_eq_append_getElem hi, List.map_append]
    exact TrsAt.mono (tupK_lst (e2 M _ g1)) ((g3.same e2).app (TrsAt.one ht2))
  obtain ⟨ys, hl, eH1, hts⟩ := hp
  rw [hul, List.take_length] at hts
  have hR : ∀ p ∈ ps.map red, Red p := fun p hp => by
    obtain ⟨p', hp', rfl⟩ := List.mem_map.mp hp
    exact red_Red (np p' hp')
  have hbq : ((ps.map red).flatMap btns).length ≤ 60 := by
    rw [(reds_btns ps).length_eq]
    exact hb
  have hdq : ∀ p ∈ ps.map red, dep p < 16 := fun p hp => by
    obtain ⟨p', hp', rfl⟩ := List.mem_map.mp hp
    have := red_dep p'
    have := dep_mem hp'
    rw [dep_node] at hd
    omega
  have q' : ∀ v' H2, Same H1 H2 → TrAt H2 (mk k (ps.map red)) v' → Q v' H2 := fun v' H2 e ht' => q v' H2 (eH1.trans e) (by rw [red_node]; exact ht')
  have hql : (ps.map red) ≠ [] := by simpa using n0
  clear q hd hb hpl n0 n1 n2 np n3 h3 hul ht
  generalize ps.map red = qs at *
  have hyl := hts.len
  have hqn := reds_len hR
  refine ⟨_, _, rfl, .ref M, rfl, M, ys, rfl, .inl (sqL hl), rfl, _, rfl, ?_⟩
  rw [ev_int]
  by_cases e1 : qs.length = 1
  · rw [decide_eq_true (by omega)]
    refine iteT ?_
    match qs, e1 with
    | [t], _ =>
      obtain ⟨v, u, rfl, h1, h2⟩ := trsAt_cons.mp hts
      refine ⟨.ref M, rfl, M, _, 0, v, rfl, rfl, sqL hl, atI_nat (j := 0) rfl, ?_⟩
      exact q' v H1 (Same.refl H1) (by rw [mk_one]; exact h1)
  rw [decide_eq_false (by omega)]
  refine iteF ⟨by decide, fun F hF => ?_⟩
  have sF := same_new hF (.lst [])
  refine ⟨.int k, rfl, rfl, .int k, rfl, .ref M, rfl, M, ys, rfl, .inl (sqL (sF _ _ hl)), rfl, _, _, _, rfl, ?_⟩
  rw [ev_int, ev_int, hyl]
  refine ⟨.ref M, rfl, M, rfl, ⟨ys, sqL (sF _ _ hl)⟩, ?_⟩
  let Pv : Nat → L2.St → Hp → Prop := fun i σ H' => ∃ zs o1 o7, σ = [some (.ref a), o1, some (.int k), some (.ref M), some (.ref F), some (.bl (decide (k = 1))), some (.bl (decide (k = (qs.length : Int)))), o7] ∧ H' F = some (.lst zs) ∧ Same H1 H' ∧ TrsAt H' (flat k qs.length (qs.take i)) zs
  refine for_list (xs := ys) Pv ⟨[], _, _, rfl, upd_same, sF, by rw [List.take_zero]; exact trsAt_nil.mpr rfl⟩ (fun i σ H' _ hp => ?_) (fun i x σ H' hx hp => ?_) (fun σ H' hp => ?_)
  · obtain ⟨zs, o1, o7, rfl, g1, g2, g3⟩ := hp
    exact sqL (g2 M _ hl)
  · obtain ⟨zs, o1, o7, rfl, g1, g2, g3⟩ := hp
    have hi : i < qs.length := by
      have := (List.getElem?_eq_some_iff.mp hx).1
      omega
    obtain ⟨x', e, hxt⟩ := hts.get (i := i) (List.getElem?_eq_getElem hi)
    rw [hx] at e
    cases e
    have hxt := hxt.same g2
    have hlen : zs.length + (btns qs[i]).length ≤ 60 := by
      have a1 := g3.len
      have a2 := reds_len (flat_red (k := k) (n := qs.length) (qs := qs.take i) fun q hq => hR q (List.mem_of_mem_take hq))
      rw [flat_btns] at a2
      have a3 : ((qs.take (i + 1)).flatMap btns).length ≤ (qs.flatMap btns).length := by
        conv => rhs; rw [← List.take_append_drop (i + 1) qs, List.flatMap_append, List.length_append]
        omega
      rw [List.take_succ_eq_append_getElem hi, List.flatMap_append, List.length_append, List.flatMap_cons, List.flatMap_nil, List.append_nil] at a3
      omega
    have hfl : flat k qs.length (qs.take (i + 1)) = flat k qs.length (qs.take i) ++ part1 k qs.length qs[i] := by
      rw [List.take_succ_eq_append_getElem hi, flat, List.flatMap_append, List.flatMap_cons, List.flatMap_nil, List.append_nil]
      rfl
    have hRi := hR qs[i] (List.getElem_mem hi)
    have nxt : ∀ (zs' : List V) (o1 o7 : Option V) (H2 : Hp), H2 F = some (.lst zs') → Same H1 H2 → TrsAt H2 (flat k qs.length (qs.take i) ++ part1 k qs.length qs[i]) zs' → Pv (i + 1) [some (.ref a), o1, some (.int k), some (.ref M), some (.ref F), some (.bl (decide (k = 1))), some (.bl (decide (k = (qs.length : Int)))), o7] H2 := fun zs' o1 o7 H2 b1 b2 b3 => ⟨zs', o1, o7, rfl, b1, b2, by rw [hfl]; exact b3⟩
    generalize qs[i] = t at *
    refine ⟨x, rfl, x, .ty "int", _, _, _, rfl, .ty _, hxt.tyX, kit_int t, _, rfl, ?_⟩
    refine rd_like rfl rfl rfl rfl hxt ?_
    cases hlk : like k qs.length t with
    | true =>
      refine iteT ?_
      cases t with
      | leaf b => cases hlk
      | node k' ps =>
        obtain ⟨a', c', vs, rfl, b1, b2, b3⟩ := trAt_node.mp hxt
        have hps := reds_len hRi.parts
        rw [← btns_node k'] at hps
        have hv := b3.len
        refine ⟨.ref F, rfl, .inl ⟨rfl, _, sqL g1⟩, .ref a', rfl, a', _, 1, .ref c', rfl, rfl, sqT b1, atI_nat (j := 1) rfl, c', vs, rfl, .inr (sqT b2), fun N hN => ?_⟩
        have sN := same_new hN (.lst vs)
        refine ⟨F, N, zs, vs, rfl, rfl, sN _ _ g1, upd_same, le_size (by omega), ?_⟩
        refine nxt (zs ++ vs) _ _ _ upd_same (Same.upd' (g2.trans sN) hF) ?_
        rw [part1_like hlk]
        exact TrsAt.mono (tupK_lst (sN _ _ g1)) ((g3.same sN).app (b3.same sN))
    | false =>
      refine iteF ?_
      have := hRi.pos
      refine ⟨.ref F, rfl, .inl ⟨rfl, _, sqL g1⟩, x, rfl, F, zs, x, rfl, rfl, g1, lt_size (by omega), ?_⟩
      refine nxt (zs ++ [x]) _ _ _ upd_same (Same.upd' g2 hF) ?_
      rw [part1_not hlk]
      exact TrsAt.mono (tupK_lst g1) (g3.app (TrsAt.one hxt))
  · obtain ⟨zs, o1, o7, rfl, g1, g2, g3⟩ := hp
    rw [hyl, List.take_length] at g3
    have hzl := g3.len
    obtain ⟨bs, hbs, hk, hsrt⟩ := trsAt_keys g3
    have hmk := mk_more k e1
    have hfR := flat_red (k := k) (n := qs.length) hR
    have hfl : (flat k qs.length qs).flatMap btns = qs.flatMap btns := flat_btns _ _ _
    have fin : ∀ m : Int, m = (if k = (qs.length : Int) then ((flat k qs.length qs).length : Int) else k) → (tCons (tCB (fun xs H Q => ∃ p ys, xs = [V.ref p] ∧ ((SqL K H p ys ∧ ∀ l, H l = none → Q (.ref l) (upd H l (.tup ys))) ∨ (SqT K H p ys ∧ Q (.ref p) H))) (tCons (fun σ H Q => tCons (tVar 4) tNil σ H fun vs H1 => tCons (tC (.ref g)) tNil σ H1 fun zs H2 => rSrtF K g (sp_lleast 16) vs zs H2 Q) tNil)) tNil) [some (.ref a), o1, some (.int k), some (.ref M), some (.ref F), some (.bl (decide (k = 1))), some (.bl (decide (k = (qs.length : Int)))), o7] H' (fun xs H1 => ((V.int m) :: xs).length ≤ sizeLine ∧ ∀ p, H1 p = none → Q (.ref p) (upd H1 p (.tup (V.int m :: xs)))) := fun m hm => by
      refine ⟨.ref F, rfl, F, bs, fun H2 => Same H' H2, rfl, rfl, sqL (by rw [← hbs]; exact g1), Same.refl H', ?_, ?_⟩
      · intro H2 e2 b hb
        obtain ⟨t, ht, e1, e3⟩ := hk b hb
        refine ⟨b.1, t, rfl, e1.same e2, hfR t ht, ?_, ?_, fun H3 e4 => ⟨by rw [e3], e2.trans e4⟩⟩
        · have := part_len ht
          rw [hfl] at this
          omega
        · obtain ⟨qq, hqq, hp⟩ := List.mem_flatMap.mp ht
          have d1 := hdq qq hqq
          rcases mem_part1 hp with rfl | ⟨k', ps', rfl, hm'⟩
          · exact d1
          · have := dep_mem hm'
            rw [dep_node] at d1
            omega
      · intro H2 p e2 hp
        refine ⟨p, _, rfl, .inl ⟨sqL upd_same, fun T hT => ⟨(by show 2 ≤ sizeLine; decide), fun R hR => ?_⟩⟩⟩
        have s1 := same_new hp (.lst ((bs.mergeSort fun x y => decide (x.2 ≤ y.2)).map (·.1)))
        have s2 := same_new hT (.tup ((bs.mergeSort fun x y => decide (x.2 ≤ y.2)).map (·.1)))
        have s3 := same_new hR (.tup [.int m, .ref T])
        refine q' (.ref R) _ (g2.trans (e2.trans (s1.trans (s2.trans s3)))) ?_
        rw [hmk, ← hm]
        refine trAt_node.mpr ⟨R, T, _, rfl, upd_same, ?_, (((hsrt.same e2).same s1).same s2).same s3⟩
        exact s3 T _ upd_same
    refine ⟨_, rfl, _, rfl, ?_⟩
    by_cases ek : k = (qs.length : Int)
    · rw [decide_eq_true ek]
      refine iteT ⟨.ref F, rfl, F, zs, rfl, .inl (sqL g1), ?_⟩
      rw [← decide_eq_true ek]
      exact fin _ (by rw [if_pos ek, hzl])
    · rw [decide_eq_false ek]
      refine iteF ⟨.int k, rfl, ?_⟩
      rw [← decide_eq_false ek]
      exact fin _ (by rw [if_neg ek])
theorem ok_reduced (B : Bi mg) (D : Df K mg "_law_reduced" (tp 55) ["_law_tree"]) (cL : Cal P w K mg base 16 "_law_least" (sp_lleast 16)) : ∀ n, Cal P w K mg base (n + 18) "_law_reduced" (sp_reduced n)
  | 0 => D.never fun vs H Q E h => by
    obtain ⟨v, t, _, _, _, _, hd, _⟩ := h
    exact absurd hd (Nat.not_lt_zero _)
  | n + 1 => reduced_step B D cL (ok_reduced B D cL n) (by omega)
end
end Ks
set_option maxRecDepth 100000
set_option maxHeartbeats 4000000
namespace Ks
open PySem PySem.Spec PyProof.Rows L2
/-! ### all, trips, weighed -/
theorem sc_all : FnScope ["_law_tree", "_law_found", "_law_part"] ["_law_tree"] (defScope (tp 56)) := ⟨rfl, rfl, rfl, by decide +kernel, rfl, by decide +kernel, by decide +kernel⟩
theorem sc_trips : FnScope ["_law_tree", "_law_part"] ["_law_tree"] (defScope (tp 57)) := ⟨rfl, rfl, rfl, by decide +kernel, rfl, by decide +kernel, by decide +kernel⟩
theorem sc_weighed : FnScope ["_law_tree", "_law_own", "_law_rest", "_law_a", "_law_b", "_law_weights", "_law_heavy", "_law_part", "_law_button"] ["_law_tree"] (defScope (tp 59)) := ⟨rfl, rfl, rfl, by decide +kernel, rfl, by decide +kernel, by decide +kernel⟩
def sp_all (n : Nat) : Sp := fun vs H Q _ => ∃ (v : V) (t : Tr), vs = [v] ∧ TrAt H t v ∧ Nst t ∧ (btns t).length ≤ 60 ∧ dep t < n ∧ ∀ (p : Addr) (ms : List Int) (H2 : Hp), Same H H2 → ms.Perm (btns t) → ms.Pairwise (· ≤ ·) → H2 p = some (.lst (ms.map V.int)) → Q (.ref p) H2
section
variable {P : Program} {w : World} {K : PySem.W.Frag} {mg : Str → Option Value} {base : Heap}
theorem all_step {n j : Nat} (B : Bi mg) (D : Df K mg "_law_all" (tp 56) ["_law_tree"]) (cR : Cal P w K mg base j "_law_all" (sp_all n)) : Cal P w K mg base (j + 1) "_law_all" (sp_all (n + 1)) := by
  refine D.cal sc_all (fun vs H Q E h => ?_) (fun f cdv A outer s H vs Q E hr h => ?_)
  · obtain ⟨v, t, rfl, _⟩ := h
    rfl
  have nd := sc_all.nd
  obtain ⟨v, t, rfl, ht, hN, hb, hd, q⟩ := h
  refine ⟨_, pss_cons (ps_if (pt_val (pe_callB call_isi (by rfl) B.isinstance (by decide +kernel) (pa_cons (pv 0) (pa_cons (pe_bltn (v := .ty "int") (by rfl) B.int (by decide +kernel) rfl) pa_nil)))) (pss_one (ps_ret (pe_lst (pa_cons (pv 0) pa_nil)))) pss_nil)
    (pss_cons (ps_set (i := 1) nd rfl (.inl rfl) (pe_lst pa_nil))
    (pss_cons (ps_for PassesOwn.never rfl (pi_tup (pe_ix ix_tup (pv 0) pe_int (fun _ _ => rfl))) (pg_name (i := 2) nd rfl (.inl rfl))
      (pss_one (ps_expr (pe_bm PySem.F.plainAttrs_list PySem.F.slot_list_extend PySem.F.type_list_extend mt_extend (pv 1) (pa_cons (pc cR hr (Nat.le_refl _) (pa_cons (pv 2) pa_nil)) pa_nil)))))
    (pss_one (ps_ret (pe_callB cr_sortedI (by rfl) B.sorted (by decide +kernel) (pa_cons (pv 1) pa_nil)))))), ?_⟩
  refine ⟨v, rfl, v, .ty "int", _, _, _, rfl, .ty _, ht.tyX, kit_int t, _, rfl, ?_⟩
  cases t with
  | leaf b =>
    have hv := trAt_leaf.mp ht
    subst hv
    refine iteT ⟨.int b, rfl, (by show 1 ≤ sizeLine; decide), fun p hp => q p [b] _ (same_new hp _) (by rw [btns]) (by simp) upd_same⟩
  | node k ps =>
    obtain ⟨a, c, us, rfl, h1, h2, h3⟩ := trAt_node.mp ht
    have hul := h3.len
    cases hN with
    | node n0 n1 n2 np n3 =>
    rw [btns_node] at hb
    refine iteF ⟨by decide, fun F hF => ?_⟩
    have sF := same_new hF (.lst [])
    refine ⟨.ref a, rfl, a, _, 1, .ref c, rfl, rfl, sqT (sF _ _ h1), atI_nat (j := 1) rfl, c, rfl, ⟨us, sqT (sF _ _ h2)⟩, ?_⟩
    refine for_tup (xs := us) (fun i σ H' => ∃ (ms : List Int) (o : Option V), σ = [some (.ref a), some (.ref F), o] ∧ H' F = some (.lst (ms.map V.int)) ∧ Same H H' ∧ ms.Perm ((ps.take i).flatMap btns)) ⟨[], _, rfl, upd_same, sF, .nil⟩ (fun i σ H' _ hp => ?_) (fun i x σ H' hx hp => ?_) (fun σ H' hp => ?_)
    · obtain ⟨ms, o, rfl, g1, g2, g3⟩ := hp
      exact sqT (g2 _ _ h2)
    · obtain ⟨ms, o, rfl, g1, g2, g3⟩ := hp
      have hi : i < ps.length := by
        have := (List.getElem?_eq_some_iff.mp hx).1
        omega
      obtain ⟨x', e, hxt⟩ := h3.get (i := i) (List.getElem?_eq_getElem hi)
      rw [hx] at e
      cases e
      have hm : ps[i] ∈ ps := List.getElem_mem hi
      have h5 := part_len hm
      have h6 := dep_mem hm
      rw [dep_node] at hd
      refine ⟨.ref F, rfl, .inl ⟨rfl, _, sqL g1⟩, x, rfl, x, ps[i], rfl, hxt.same g2, np _ hm, by omega, by omega, fun p ns H2 e2 pn _ hp => ?_⟩
      have a3 : ((ps.take (i + 1)).flatMap btns).length ≤ (ps.flatMap btns).length := by
        conv => rhs; rw [← List.take_append_drop (i + 1) ps, List.flatMap_append, List.length_append]
        omega
      have hfl : (ps.take (i + 1)).flatMap btns = (ps.take i).flatMap btns ++ btns ps[i] := by rw [List.take_succ_eq_append_getElem hi, List.flatMap_append, List.flatMap_cons, List.flatMap_nil, List.append_nil]
      have l1 := g3.length_eq
      have l2 := pn.length_eq
      rw [hfl, List.length_append] at a3
      refine ⟨F, p, _, _, rfl, rfl, e2 _ _ g1, hp, le_size (by rw [List.length_map, List.length_map]; omega), ms ++ ns, _, rfl, by rw [upd_same, List.map_append], Same.upd' (g2.trans e2) hF, ?_⟩
      rw [hfl]
      exact (g3.append_right ns).trans (pn.append_left _)
    · obtain ⟨ms, o, rfl, g1, g2, g3⟩ := hp
      rw [hul, List.take_length] at g3
      refine ⟨.ref F, rfl, F, ms, rfl, sqL g1, fun ns p pn srt hp => q p ns _ (g2.trans (same_new hp _)) ?_ srt upd_same⟩
      rw [btns_node]
      exact pn.trans g3
theorem ok_all (B : Bi mg) (D : Df K mg "_law_all" (tp 56) ["_law_tree"]) : ∀ n, Cal P w K mg base n "_law_all" (sp_all n)
  | 0 => D.never fun vs H Q E h => by
    obtain ⟨v, t, _, _, _, _, hd, _⟩ := h
    exact absurd hd (Nat.not_lt_zero _)
  | n + 1 => all_step B D (ok_all B D n)
theorem ok_trips (B : Bi mg) (D : Df K mg "_law_trips" (tp 57) ["_law_tree"]) : Cal P w K mg base 1 "_law_trips" sp_own_trips := by
  refine D.cal sc_trips (fun vs H Q E h => ?_) (fun f cdv A outer s H vs Q E hr h => ?_)
  · obtain ⟨v, t, rfl, _⟩ := h
    rfl
  have nd := sc_trips.nd
  obtain ⟨v, t, rfl, ht, hl, q⟩ := h
  refine ⟨_, pss_one (ps_ret (pe_ifExp (pt_val (pe_callB call_isi (by rfl) B.isinstance (by decide +kernel) (pa_cons (pv 0) (pa_cons (pe_bltn (v := .ty "int") (by rfl) B.int (by decide +kernel) rfl) pa_nil)))) (pe_lst pa_nil) (pe_lc (own := [("_law_part", 1)]) (g := gName 1) (tt := tNot (tB (tCB (rIsi K) (tCons (tVar 1) (tCons (tC (.ty "int")) tNil))))) rfl nd (pi_tup (pe_ix ix_tup (pv 0) pe_int (fun _ _ => rfl))) (blkOk_by (N := ["_law_tree", "_law_part"]) (sc := defScope (tp 57)) (by decide +kernel))
        (fun _ _ _ _ _ => pg_name (i := 1) nd rfl (Or.inl rfl)) (fun _ _ _ _ _ => pts_one (pt_not (pt_val (pe_callB call_isi (by rfl) B.isinstance (by decide +kernel) (pa_cons (pv 1) (pa_cons (pe_bltn (v := .ty "int") (by rfl) B.int (by decide +kernel) rfl) pa_nil)))))) (fun _ _ _ _ _ => pv 1)))), ?_⟩
  refine ⟨v, rfl, v, .ty "int", _, _, _, rfl, .ty _, ht.tyX, kit_int t, _, rfl, ?_⟩
  cases t with
  | leaf b => exact iteT ⟨by decide, fun p hp => q p [] hp (trsAt_nil.mpr rfl)⟩
  | node k ps =>
    obtain ⟨a, c, us, rfl, h1, h2, h3⟩ := trAt_node.mp ht
    have hul := h3.len
    refine iteF ⟨.ref a, rfl, a, _, 1, .ref c, rfl, rfl, sqT h1, atI_nat (j := 1) rfl, c, rfl, ⟨us, sqT h2⟩, fun D hD => ?_⟩
    refine lc_tup (xs := us) (fun i H' => ∃ ys, H' = upd H D (.lst ys) ∧ TrsAt H (ownT (ps.take i)) ys) ⟨[], rfl, trsAt_nil.mpr rfl⟩ (fun i H' _ hp => ?_) (fun i x H' hx hp => ?_) (fun H' hp => ?_)
    · obtain ⟨ys, rfl, hy⟩ := hp
      exact sqT (same_new hD _ _ _ h2)
    · obtain ⟨ys, rfl, hy⟩ := hp
      have hi : i < ps.length := by
        have := (List.getElem?_eq_some_iff.mp hx).1
        omega
      obtain ⟨x', e, hxt⟩ := h3.get (i := i) (List.getElem?_eq_getElem hi)
      rw [hx] at e
      cases e
      refine ⟨rfl, x, rfl, x, .ty "int", _, _, _, rfl, .ty _, (hxt.same (same_new hD _)).tyX, kit_int _, _, rfl, ?_⟩
      have hyl := hy.len
      have hb : (ownT (ps.take i)).length + (ownT [ps[i]]).length ≤ (trips (.node k ps)).length := by
        have e := congrArg List.length (ownT_append (ps.take (i + 1)) (ps.drop (i + 1)))
        rw [List.take_append_drop, ownT_take hi, List.length_append, List.length_append] at e
        show _ ≤ (ownT ps).length
        omega
      rw [ownT_take hi]
      generalize ps[i] = t at *
      cases t with
      | leaf b =>
        refine iteF ⟨ys, rfl, ?_⟩
        show TrsAt H (ownT (ps.take i) ++ []) ys
        rw [List.append_nil]
        exact hy
      | node k' qs =>
        refine iteT ⟨x, rfl, _, upd_same, lt_size (by omega), ?_⟩
        exact ⟨ys ++ [x], by rw [upd_upd], hy.app (TrsAt.one hxt)⟩
    · obtain ⟨ys, rfl, hy⟩ := hp
      rw [hul, List.take_length] at hy
      exact q D ys hD hy
end
end Ks
set_option maxRecDepth 100000
set_option maxHeartbeats 4000000
namespace Ks
open PySem PySem.Spec PyProof.Rows L2
/-! ### weighed -/
abbrev wN : List Str := ["_law_tree", "_law_own", "_law_rest", "_law_a", "_law_b", "_law_weights", "_law_heavy", "_law_part", "_law_button"]
def kvsOf (rs : List (Int × Int)) : List (Key × V) := rs.map fun r => (.inl r.1, .int r.2)
theorem valV_none {kvs : List (Key × V)} {k : Key} (h : ∀ kv ∈ kvs, ¬ kv.1 = k) : valV kvs k = none := by
  induction kvs with
  | nil => rfl
  | cons kv r ih =>
    rw [valV_neg (h kv (.head _))]
    exact ih fun x hx => h x (.tail _ hx)
theorem mergeK_new : ∀ {more old : List (Key × V)}, (∀ kv ∈ more, valV old kv.1 = none) → (more.map (·.1)).Nodup → mergeK old more = old ++ more
  | [], old, _, _ => by rw [List.append_nil]; rfl
  | kv :: r, old, h, nd => by
    have h0 := h kv (.head _)
    have nd' := List.nodup_cons.mp nd
    show mergeK (putK old kv.1 kv.2) r = _
    rw [putK_new kv.2 h0, mergeK_new (more := r) (fun x hx => ?_) nd'.2]
    · rw [List.append_assoc]
      rfl
    · rw [valV_snoc kv.1 x.1 kv.2 old h0, if_neg (fun e => nd'.1 (List.mem_map.mpr ⟨x, hx, e⟩))]
      exact h x (.tail _ hx)
theorem kvsOf_keys (rs : List (Int × Int)) : (kvsOf rs).map (·.1) = (rs.map (·.1)).map (Sum.inl : Int → Key) := by
  unfold kvsOf
  rw [List.map_map, List.map_map]
  rfl
theorem kvs_nodup {rs : List (Int × Int)} (h : (rs.map (·.1)).Nodup) : ((kvsOf rs).map (·.1)).Nodup := by
  rw [kvsOf_keys]
  exact List.pairwise_map.mpr (h.imp fun h e => h (by injection e))
theorem merge_rows {rs ms : List (Int × Int)} (h : ((rs ++ ms).map (·.1)).Nodup) : mergeK (kvsOf rs) (kvsOf ms) = kvsOf (rs ++ ms) := by
  rw [List.map_append] at h
  obtain ⟨_, h2, h3⟩ := List.nodup_append.mp h
  rw [mergeK_new (fun kv hkv => valV_none fun kv' hkv' e => ?_) (kvs_nodup h2)]
  · unfold kvsOf
    rw [List.map_append]
  · obtain ⟨m, hm, rfl⟩ := List.mem_map.mp hkv
    obtain ⟨r, hr, rfl⟩ := List.mem_map.mp hkv'
    have e : r.1 = m.1 := by injection e
    exact h3 r.1 (List.mem_map_of_mem hr) m.1 (List.mem_map_of_mem hm) e
theorem merge_rows0 {ms : List (Int × Int)} (h : (ms.map (·.1)).Nodup) : mergeK [] (kvsOf ms) = kvsOf ms := merge_rows (rs := []) h
theorem paired_app {α β : Type} {R : α → β → Prop} {a : List α} {b : List β} (h : Paired R a b) {x : α} {y : β} (r : R x y) : Paired R (a ++ [x]) (b ++ [y]) := by
  induction h with
  | nil => exact .cons r .nil
  | cons h1 _ ih => exact .cons h1 ih
theorem heavy_eq {k s a b m : Int} (hk : 1 ≤ k) (hks : k ≤ s + 1) (hs : 1 ≤ s) (hm : m ∈ (List.replicate (if decide (k ≤ s) = true then (1 : Int) else 0).toNat [a]).flatten ++ (List.replicate (if decide (1 < k) = true then (1 : Int) else 0).toNat [b]).flatten)
    (hx : ∀ y ∈ (List.replicate (if decide (k ≤ s) = true then (1 : Int) else 0).toNat [a]).flatten ++ (List.replicate (if decide (1 < k) = true then (1 : Int) else 0).toNat [b]).flatten, y ≤ m) : m = wt k s a b := by
  unfold wt
  by_cases h1 : k ≤ s
  · by_cases h2 : 1 < k
    · rw [if_neg (by omega), if_pos h1]
      simp [h1, h2] at hm hx
      omega
    · rw [if_pos (by omega)]
      simp [h1, h2] at hm hx
      exact hm
  · have h2 : 1 < k := by omega
    rw [if_neg (by omega), if_neg (by omega)]
    simp [h1, h2] at hm hx
    exact hm
theorem heavy_ne {k s a b : Int} (hk : 1 ≤ k) (hks : k ≤ s + 1) (hs : 1 ≤ s) : 0 < ((List.replicate (if decide (k ≤ s) = true then (1 : Int) else 0).toNat [a]).flatten ++ (List.replicate (if decide (1 < k) = true then (1 : Int) else 0).toNat [b]).flatten).length := by
  by_cases h1 : k ≤ s
  · simp [h1]
  · have h2 : 1 < k := by omega
    simp [h1, h2]
def sp_weighed (n : Nat) : Sp := fun vs H Q _ => ∃ (v : V) (t : Tr) (L : List Lv), vs = [v] ∧ TrAt H t v ∧ Red t ∧ Lvs t L ∧ Ok L ∧ (L.flatMap (·.2)).Nodup ∧ (L.flatMap (·.2)).length ≤ 60 ∧ (btns t).length ≤ 60 ∧ dep t < n ∧ n ≤ 16 ∧
  ∀ T D p R rs H2, pw L = p :: R → Same H H2 → rs.Perm (wls L) → H2 T = some (.tup [.int p.a, .int p.b, .ref D]) → H2 D = some (.dK (kvsOf rs)) → H D = none → Q (.ref T) H2
/-- pairs for a dict, as they are made -/
def PsAt (H : Hp) (as : List Addr) (rs : List (Int × Int)) : Prop := Paired (fun p (kv : Key × V) => H p = some (.tup [kV kv.1, kv.2])) as (kvsOf rs)
theorem PsAt.mono {H H' : Hp} (e : TupK H H') {as : List Addr} {rs : List (Int × Int)} (h : PsAt H as rs) : PsAt H' as rs := Paired.mapP h fun p kv q => e _ _ q
section
variable {P : Program} {w : World} {K : PySem.W.Frag} {mg : Str → Option Value} {base : Heap}
set_option maxHeartbeats 8000000 in
theorem weighed_step {n j : Nat} (B : Bi mg) (D : Df K mg "_law_weighed" (tp 59) ["_law_tree"]) (cT : Cal P w K mg base 1 "_law_trips" sp_own_trips) (cR : Cal P w K mg base j "_law_weighed" (sp_weighed n)) (hj : 1 ≤ j) : Cal P w K mg base (j + 1) "_law_weighed" (sp_weighed (n + 1)) := by
  have sc : FnScope wN ["_law_tree"] (defScope (tp 59)) := sc_weighed
  refine D.cal sc (fun vs H Q E h => ?_) (fun f cdv A outer s H vs Q E hr h => ?_)
  · obtain ⟨v, t, L, rfl, _⟩ := h
    rfl
  have nd := sc.nd
  have hu := hr.units
  obtain ⟨v, t, L, rfl, ht, hR, hL, hok, hnd, hll, hbl, hd, hn16, q⟩ := h
  refine ⟨_, pss_cons (ps_if (pt_val (pe_callB call_isi (by rfl) B.isinstance (by decide +kernel) (pa_cons (pv 0) (pa_cons (pe_bltn (v := .ty "int") (by rfl) B.int (by decide +kernel) rfl) pa_nil))))
      (pss_one (ps_ret (pe_tup (pa_cons pe_int (pa_cons pe_int (pa_cons (pe_disp (pps_cons (pv 0) pe_int pps_nil) rfl rfl (by simp) (by decide)) pa_nil)))))) pss_nil)
    (pss_cons (ps_par (i := 1) (j := 2) rfl nd rfl rfl (by decide) rfl rfl (pa_cons
      (pe_lc (own := [("_law_part", 7)]) (g := gName 7) (tt := tB (tCB (rIsi K) (tCons (tVar 7) (tCons (tC (.ty "int")) tNil)))) rfl nd (pi_tup (pe_ix ix_tup (pv 0) pe_int (fun _ _ => rfl))) (blkOk_by (N := wN) (sc := defScope (tp 59)) (by decide +kernel))
        (fun _ _ _ _ _ => pg_name (i := 7) nd rfl (Or.inl rfl)) (fun _ _ _ _ _ => pts_one (pt_val (pe_callB call_isi (by rfl) B.isinstance (by decide +kernel) (pa_cons (pv 7) (pa_cons (pe_bltn (v := .ty "int") (by rfl) B.int (by decide +kernel) rfl) pa_nil))))) (fun _ _ _ _ _ => pv 7))
      (pa_cons (pc cT hr hj (pa_cons (pv 0) pa_nil)) pa_nil)) (by rfl))
    (pss_cons (ps_if (pt_cmpR (op_eqD hu) (pv 2) (pe_lst pa_nil) (by rfl))
      (pss_one (ps_ret (pe_tup (pa_cons (pe_ix ix_tup (pv 0) pe_int (fun _ _ => rfl)) (pa_cons (pe_op op_add (pe_op op_sub (p_len B.len (pv 1)) (pe_ix ix_tup (pv 0) pe_int (fun _ _ => rfl))) pe_int)
        (pa_cons (pe_callTy (call_dictP rfl) (by rfl) B.dict (by decide +kernel) (pa_cons
          (pe_lc (own := [("_law_button", 8)]) (g := gName 8) (tt := tYes) rfl nd (pi_list (pv 1)) (blkOk_by (N := wN) (sc := defScope (tp 59)) (by decide +kernel))
            (fun _ _ _ _ _ => pg_name (i := 8) nd rfl (Or.inl rfl)) (fun _ _ _ _ _ => pts_nil) (fun _ _ _ _ _ => pe_tup (pa_cons (pv 8) (pa_cons pe_int pa_nil)))) pa_nil)) pa_nil)))))) pss_nil)
    (pss_cons (ps_asg (pc cR hr (Nat.le_refl _) (pa_cons (pe_ix ix_list (pv 2) pe_int (fun _ _ => rfl)) pa_nil)) (pg_tup rfl (pgs_cons (pg_name (i := 3) nd rfl (.inl rfl)) (pgs_cons (pg_name (i := 4) nd rfl (.inl rfl)) (pgs_cons (pg_name (i := 5) nd rfl (.inl rfl)) pgs_nil)))))
    (pss_cons (ps_set (i := 6) nd rfl (.inr rfl) (pe_callB (cr_max rfl) (by rfl) (show mg "max" = none from B.max) PyProof.Rows.boot_max (pa_cons (pe_op op_cat
        (pe_op op_rep (pe_lst (pa_cons (pv 3) pa_nil)) (pe_callTy call_int1 (by rfl) B.int (by decide +kernel) (pa_cons (pe_cmpR op_ge (p_len B.len (pv 1)) (pe_ix ix_tup (pv 0) pe_int (fun _ _ => rfl)) (nomark _)) pa_nil)))
        (pe_op op_rep (pe_lst (pa_cons (pv 4) pa_nil)) (pe_callTy call_int1 (by rfl) B.int (by decide +kernel) (pa_cons (pe_cmpR op_gt (pe_ix ix_tup (pv 0) pe_int (fun _ _ => rfl)) pe_int (nomark _)) pa_nil)))) pa_nil)))
    (pss_cons (ps_expr (pe_bm PySem.F.plainAttrs_dict PySem.F.slot_dict_update PySem.F.type_dict_update (mt_updP rfl) (pv 5) (pa_cons
        (pe_lc (own := [("_law_button", 8)]) (g := gName 8) (tt := tYes) rfl nd (pi_list (pv 1)) (blkOk_by (N := wN) (sc := defScope (tp 59)) (by decide +kernel))
            (fun _ _ _ _ _ => pg_name (i := 8) nd rfl (Or.inl rfl)) (fun _ _ _ _ _ => pts_nil) (fun _ _ _ _ _ => pe_tup (pa_cons (pv 8) (pa_cons (pv 6) pa_nil)))) pa_nil)))
    (pss_one (ps_ret (pe_tup (pa_cons (pe_op op_add (pv 3) (pe_op op_mul (pe_op op_sub (pe_ix ix_tup (pv 0) pe_int (fun _ _ => rfl)) pe_int) (pv 6)))
      (pa_cons (pe_op op_add (pv 4) (pe_op op_mul (pe_op op_add (pe_op op_sub (p_len B.len (pv 1)) (pe_ix ix_tup (pv 0) pe_int (fun _ _ => rfl))) pe_int) (pv 6))) (pa_cons (pv 5) pa_nil))))))))))), ?_⟩
  refine ⟨v, rfl, v, .ty "int", _, _, _, rfl, .ty _, ht.tyX, kit_int t, _, rfl, ?_⟩
  cases t with
  | leaf b =>
    have hv := trAt_leaf.mp ht
    subst hv
    cases hL
    refine iteT fun p hp => ⟨.int b, rfl, upd_same, [(.inl b, .int 1)], rfl, (by show 1 ≤ 15; decide), (by show 3 ≤ sizeLine; decide), fun T hT => ?_⟩
    have hpT : p ≠ T := ne_of_none upd_same hT
    have sT := same_new hT (.tup [.int 1, .int 1, .ref p])
    refine q T p _ [] [(b, 1)] _ (pw_one _ _) ((Same.upd' (same_new hp _) hp).trans sT) (by rw [wls_one]; exact List.Perm.refl _) ?_ ?_ hp
    · rw [upd_same]
      rfl
    · rw [upd_ne hpT, upd_same]
      rfl
  | node k ps =>
  obtain ⟨a, c, us, rfl, h1, h2, h3⟩ := trAt_node.mp ht
  have hul := h3.len
  have hpl := reds_len hR.parts
  rw [btns_node] at hbl
  refine iteF ⟨.ref a, rfl, a, _, 1, .ref c, rfl, rfl, sqT h1, atI_nat (j := 1) rfl, c, rfl, ⟨us, sqT h2⟩, fun O hO => ?_⟩
  refine lc_tup (xs := us) (fun i H' => H' = upd H O (.lst ((ownB (ps.take i)).map V.int))) rfl (fun i H' _ hp => ?_) (fun i x H' hx hp => ?_) (fun H' hp => ?_)
  · subst hp
    exact sqT (same_new hO _ _ _ h2)
  · subst hp
    have hi : i < ps.length := by
      have := (List.getElem?_eq_some_iff.mp hx).1
      omega
    obtain ⟨x', e, hxt⟩ := h3.get (i := i) (List.getElem?_eq_getElem hi)
    rw [hx] at e
    cases e
    refine ⟨rfl, x, rfl, x, .ty "int", _, _, _, rfl, .ty _, (hxt.same (same_new hO _)).tyX, kit_int _, _, rfl, ?_⟩
    rw [ownB_take hi]
    have hb := ownB_len (ps.take i)
    rw [List.length_take] at hb
    generalize ps[i] = t at *
    cases t with
    | leaf b =>
      refine iteT ⟨x, rfl, _, upd_same, lt_size (by rw [List.length_map]; omega), ?_⟩
      rw [trAt_leaf.mp hxt, upd_upd, List.map_append]
      rfl
    | node k' qs =>
      refine iteF ?_
      show _ = upd H O (.lst ((ownB (ps.take i) ++ []).map V.int))
      rw [List.append_nil]
  rw [hul, List.take_length] at hp
  have sO := same_new hO (.lst ((ownB ps).map V.int))
  rw [← hp] at sO
  have hO' : H' O = some (.lst ((ownB ps).map V.int)) := by
    rw [hp]
    exact upd_same
  clear hp
  have htr := hR.trips
  refine ⟨.ref a, rfl, .ref a, .node k ps, rfl, ht.same sO, Nat.le_trans htr (by decide), fun R ts hRn hts => ⟨_, _, rfl, ?_⟩⟩
  have sR := same_new hRn (.lst ts)
  have hts : TrsAt H' (ownT ps) ts := hts
  refine ⟨.ref R, rfl, ?_⟩
  refine rd_eq (xs := ts) (ds := treesD (ownT ps)) upd_same (fun H' e => dpTs ((hts.same sR).same e)) (shaped_ts (n := 16) (fun p hp => ?_) (by decide)) fun p5 hp5 => ⟨_, rfl, ?_⟩
  · have := dep_mem (mem_ownT hp)
    rw [dep_node] at hd
    omega
  have s5 := same_new hp5 (.lst [])
  have hH5 := sO.trans (sR.trans s5)
  have hO5 := s5 _ _ (sR _ _ hO')
  have hR5 := s5 _ _ (upd_same (H := H') (a := R) (o := .lst ts))
  have hts5 := (hts.same sR).same s5
  have h15 := hH5 _ _ h1
  revert hH5 hO5 hR5 hts5 h15
  generalize upd (upd H' R (.lst ts)) p5 (.lst []) = H5
  intro hH5 hO5 hR5 hts5 h15
  clear s5 sR sO hO' hts hRn hp5
  have hob := ownB_len ps
  -- pairs of the own buttons with one weight
  have pairs : ∀ (x : Int) (H6 : Hp) (D6 : Addr) (σ8 : L2.St), H6 O = some (.lst ((ownB ps).map V.int)) → H6 D6 = none → ∀ (te : TE) (Qd : Hp → Prop), (∀ (b : Int) (H7 : Hp) (Q' : VK), (∀ T, H7 T = none → Q' (.ref T) (upd H7 T (.tup [.int b, .int x]))) → te ((wipe σ8 [8]).set 8 (some (.int b))) H7 Q') → (∀ z, wipe ((wipe σ8 [8]).set 8 (some z)) [8] = wipe σ8 [8]) →
      (∀ H7 as, H7 D6 = some (.lst (as.map V.ref)) → PsAt H7 as ((ownB ps).map fun b => (b, x)) → Same H6 H7 → Qd H7) →
      ∃ W : Nat → Nat → Hp → Prop, (∃ m, W 0 m (upd H6 D6 (.lst []))) ∧ ∀ i m H, W i m H → ((Itl K O).stop i H ∧ Qd H) ∨ ((Itl K O).go i H ∧ ∃ Nx : Hp → Prop, (∀ H', Nx H' → ∃ m', m' < m ∧ W (i + 1) m' H') ∧ ∀ x H', (Itl K O).yld i H x H' → gName 8 x (wipe σ8 [8]) H' fun σ2 H2 => wipe σ2 [8] = wipe σ8 [8] ∧ tYes σ2 H2 fun b H3 =>
        if b = true then te σ2 H3 fun y H4 => ∃ acc, H4 D6 = some (.lst acc) ∧ acc.length < sizeLine ∧ Nx (upd H4 D6 (.lst (acc ++ [y]))) else Nx H3) := by
    intro x H6 D6 σ8 hO6 hD6 te Qd hte hw hQ
    refine lc_list (xs := (ownB ps).map V.int) (fun i H7 => ∃ as : List Addr, as.length = i ∧ H7 D6 = some (.lst (as.map V.ref)) ∧ PsAt H7 as (((ownB ps).take i).map fun b => (b, x)) ∧ Same H6 H7) ⟨[], rfl, upd_same, .nil, same_new hD6 _⟩ (fun i H7 _ hp => ?_) (fun i y H7 hy hp => ?_) (fun H7 hp => ?_)
    · obtain ⟨as, g0, g1, g2, g3⟩ := hp
      exact sqL (g3 _ _ hO6)
    · obtain ⟨as, g0, g1, g2, g3⟩ := hp
      rw [List.getElem?_map] at hy
      obtain ⟨b, hb, rfl⟩ := Option.map_eq_some_iff.mp hy
      have hi : i < (ownB ps).length := (List.getElem?_eq_some_iff.mp hb).1
      have hb' : (ownB ps)[i] = b := (List.getElem?_eq_some_iff.mp hb).2
      refine ⟨hw _, hte b H7 _ fun T hT => ?_⟩
      have sT := same_new hT (.tup [.int b, .int x])
      refine ⟨as.map V.ref, sT _ _ g1, lt_size (by rw [List.length_map]; omega), as ++ [T], by rw [List.length_append, g0]; rfl, ?_, ?_, Same.upd' (g3.trans sT) hD6⟩
      · rw [upd_same, List.map_append]
        rfl
      · have tk := (Same.tupK sT).trans (tupK_lst (o := .lst (as.map V.ref ++ [V.ref T])) (sT _ _ g1))
        rw [List.take_succ_eq_append_getElem hi, hb', List.map_append]
        unfold PsAt kvsOf
        rw [List.map_append]
        exact paired_app (g2.mono tk) (tupK_lst (o := .lst (as.map V.ref ++ [V.ref T])) (sT _ _ g1) _ _ upd_same)
    · obtain ⟨as, g0, g1, g2, g3⟩ := hp
      rw [List.length_map, List.take_length] at g2
      exact hQ H7 as g1 g2 g3
  cases hT : ownT ps with
  | nil =>
    rw [hT] at hts5
    obtain rfl := trsAt_nil.mp hts5
    cases hL with
    | more h _ =>
      rw [hT] at h
      cases h
    | last _ =>
      refine iteT ⟨.ref a, rfl, a, _, 0, .int k, rfl, rfl, sqT h15, atI_nat (j := 0) rfl, .ref O, rfl, O, _, rfl, .inl (sqL hO5), .ref a, rfl, a, _, 0, .int k, rfl, rfl, sqT h15, atI_nat (j := 0) rfl, _, _, rfl, rfl, _, _, rfl, rfl, .ref O, rfl, O, rfl, ⟨_, sqL hO5⟩, fun D6 hD6 => ?_⟩
      refine pairs 1 H5 D6 _ hO5 hD6 _ _ (fun b H7 Q' hq => ⟨.int b, rfl, (by show 2 ≤ sizeLine; decide), hq⟩) (fun z => rfl) fun H7 as g1 g2 g3 => ?_
      refine ⟨D6, as, kvsOf ((ownB ps).map fun b => (b, 1)), rfl, sqL g1, Paired.mapP g2 fun p kv e => sqT e, fun G hG => ?_⟩
      have hndo : (((ownB ps).map fun b => (b, (1 : Int))).map (·.1)).Nodup := by
        rw [List.map_map]
        have : (ownB ps).Nodup := by simpa using hnd
        rw [show ((fun x : Int × Int => x.1) ∘ fun b => (b, 1)) = id from rfl, List.map_id]
        exact this
      rw [merge_rows0 hndo]
      have sG := same_new hG (.dK (kvsOf ((ownB ps).map fun b => (b, 1))))
      refine ⟨(by show 3 ≤ sizeLine; decide), fun T hT' => ?_⟩
      have sT := same_new hT' (.tup [.int k, .int ((((ownB ps).map V.int).length : Int) - k + 1), .ref G])
      refine q T G _ [] _ _ (pw_one _ _) (hH5.trans (g3.trans (sG.trans sT))) (by rw [wls_one]) ?_ (sT _ _ upd_same) (Same.free (hH5.trans g3) hG)
      rw [upd_same, List.length_map]
  | cons t1 r1 =>
    have hr1 : r1 = [] := by
      rw [hT] at htr
      cases r1 with
      | nil => rfl
      | cons _ _ => simp at htr
    subst hr1
    rw [hT] at hts5
    obtain ⟨y, u, rfl, y1, y2⟩ := trsAt_cons.mp hts5
    have hm1 : t1 ∈ ownT ps := by rw [hT]; exact .head _
    have hm := mem_ownT hm1
    cases hL with
    | last h =>
      rw [hT] at h
      cases h
    | @more _ _ t' L' h hL' =>
    rw [hT] at h
    cases h
    obtain ⟨l0, L0, rfl⟩ := hL'.ne
    have hok : 1 ≤ k ∧ k ≤ ((ownB ps).length : Int) + 1 ∧ 1 ≤ (ownB ps).length ∧ Ok (l0 :: L0) := hok
    have hnd' : (ownB ps ++ (l0 :: L0).flatMap (·.2)).Nodup := hnd
    have hll' : (ownB ps ++ (l0 :: L0).flatMap (·.2)).length ≤ 60 := hll
    rw [List.length_append] at hll'
    obtain ⟨n1, n2, n3⟩ := List.nodup_append.mp hnd'
    have hp1 := part_len hm
    have hd1 := dep_mem hm
    rw [dep_node] at hd
    refine iteF ⟨.ref R, rfl, R, _, 0, y, rfl, rfl, sqL hR5, atI_nat (j := 0) rfl, y, t1, _, rfl, y1, hR.parts _ hm, hL', hok.2.2.2, n2, by omega, by omega, by omega, by omega, fun T1 G p R0 rs H6 hpw e6 hperm hT1 hG hGn => ?_⟩
    refine ⟨T1, _, rfl, sqT hT1, rfl, _, _, rfl, _, _, rfl, _, _, rfl, rfl, ?_⟩
    have hO6 := e6 _ _ hO5
    have h16 := e6 _ _ h15
    have hl1 : (((ownB ps).map V.int).length : Int) = ((ownB ps).length : Int) := by rw [List.length_map]
    refine ⟨.int p.a, rfl, (by show 1 ≤ sizeLine; decide), fun A1 hA1 => ?_⟩
    have s1 := same_new hA1 (.lst [.int p.a])
    refine ⟨.ref O, rfl, O, _, rfl, .inl (sqL (s1 _ _ hO6)), .ref a, rfl, a, _, 0, .int k, rfl, rfl, sqT (s1 _ _ h16), atI_nat (j := 0) rfl, _, _, rfl, rfl, .inr ⟨_, rfl, A1, _, [.int p.a], rfl, rfl, upd_same, ?_, ?_, ?_, fun A2 hA2 => ?_⟩⟩
    · split <;> decide
    · split <;> decide
    · split <;> exact le_size (by simp)
    have s2 := same_new hA2 (.lst (List.replicate (if decide (k ≤ ((((ownB ps).map V.int).length : Nat) : Int)) = true then (1 : Int) else 0).toNat [V.int p.a]).flatten)
    have s12 := s1.trans s2
    refine ⟨.int p.b, rfl, (by show 1 ≤ sizeLine; decide), fun A3 hA3 => ?_⟩
    have s3 := same_new hA3 (.lst [.int p.b])
    have s13 := s12.trans s3
    refine ⟨.ref a, rfl, a, _, 0, .int k, rfl, rfl, sqT (s13 _ _ h16), atI_nat (j := 0) rfl, _, _, rfl, rfl, .inr ⟨_, rfl, A3, _, [.int p.b], rfl, rfl, upd_same, ?_, ?_, ?_, fun A4 hA4 => ?_⟩⟩
    · split <;> decide
    · split <;> decide
    · split <;> exact le_size (by simp)
    have s4 := same_new hA4 (.lst (List.replicate (if decide (1 < k) = true then (1 : Int) else 0).toNat [V.int p.b]).flatten)
    have hA2' := s4 _ _ (s3 _ _ (upd_same (H := upd H6 A1 (.lst [.int p.a])) (a := A2) (o := .lst (List.replicate (if decide (k ≤ ((((ownB ps).map V.int).length : Nat) : Int)) = true then (1 : Int) else 0).toNat [V.int p.a]).flatten)))
    refine ⟨A2, A4, _, _, rfl, rfl, hA2', upd_same, ?_, fun A5 hA5 => ?_⟩
    · have r1 : ∀ (b : Bool) (x : V), (List.replicate (if b = true then (1 : Int) else 0).toNat [x]).flatten.length ≤ 1 := fun b x => by cases b <;> simp
      have a1 := r1 (decide (k ≤ ((((ownB ps).map V.int).length : Nat) : Int))) (V.int p.a)
      have a2 := r1 (decide (1 < k)) (V.int p.b)
      exact le_size (by omega)
    have hcat : (List.replicate (if decide (k ≤ ((((ownB ps).map V.int).length : Nat) : Int)) = true then (1 : Int) else 0).toNat [V.int p.a]).flatten ++ (List.replicate (if decide (1 < k) = true then (1 : Int) else 0).toNat [V.int p.b]).flatten =
        ((List.replicate (if decide (k ≤ ((((ownB ps).map V.int).length : Nat) : Int)) = true then (1 : Int) else 0).toNat [p.a]).flatten ++ (List.replicate (if decide (1 < k) = true then (1 : Int) else 0).toNat [p.b]).flatten).map V.int := by
      rw [List.map_append, List.map_flatten, List.map_flatten, List.map_replicate, List.map_replicate]
      rfl
    have s5 := same_new hA5 (.lst ((List.replicate (if decide (k ≤ ((((ownB ps).map V.int).length : Nat) : Int)) = true then (1 : Int) else 0).toNat [V.int p.a]).flatten ++ (List.replicate (if decide (1 < k) = true then (1 : Int) else 0).toNat [V.int p.b]).flatten))
    have sAll := s13.trans (s4.trans s5)
    refine ⟨A5, _, rfl, sqL (by rw [← hcat]; exact upd_same), by rw [hl1]; exact heavy_ne hok.1 hok.2.1 (by omega), fun m hmm hmx => ?_⟩
    rw [hl1] at hmm hmx
    have hmw := heavy_eq hok.1 hok.2.1 (by omega) hmm hmx
    subst hmw
    clear hmm hmx hcat
    have hO7 := sAll _ _ hO6
    have h17 := sAll _ _ h16
    have hG7 := sAll _ _ hG
    have e7 := hH5.trans (e6.trans sAll)
    revert hO7 h17 hG7 e7
    clear s1 s2 s12 s3 s13 s4 s5 sAll hA2' hA5 hA4
    generalize upd (upd (upd (upd (upd H6 A1 (.lst [.int p.a])) A2 _) A3 _) A4 _) A5 _ = H7
    intro hO7 h17 hG7 e7
    refine ⟨.ref G, rfl, .inr (.inr (.inl ⟨rfl, .inl ⟨_, hG7⟩⟩)), .ref O, rfl, O, rfl, ⟨_, sqL hO7⟩, fun D6 hD6 => ?_⟩
    refine pairs (wt k ((ownB ps).length : Int) p.a p.b) H7 D6 _ hO7 hD6 _ _ (fun b H8 Q' hq => ⟨.int b, rfl, _, rfl, (by show 2 ≤ sizeLine; decide), hq⟩) (fun z => rfl) fun H8 as g1 g2 g3 => ?_
    have hG8 := g3 _ _ hG7
    have hGn : H G = none := Same.free hH5 hGn
    have hrl := hperm.length_eq
    have hwl : (wls (l0 :: L0)).length = ((l0 :: L0).flatMap (·.2)).length := by rw [← wls_fst, List.length_map]
    refine ⟨G, D6, as, kvsOf rs, kvsOf ((ownB ps).map fun b => (b, wt k ((ownB ps).length : Int) p.a p.b)), rfl, rfl, hG8, g1, g2, le_size (by unfold kvsOf; rw [List.length_map, List.length_map, List.length_map]; omega), ?_⟩
    have hkeys : ((rs ++ (ownB ps).map fun b => (b, wt k ((ownB ps).length : Int) p.a p.b)).map (·.1)).Perm (ownB ps ++ (l0 :: L0).flatMap (·.2)) := by
      rw [List.map_append, List.map_map, show ((fun x : Int × Int => x.1) ∘ fun b => (b, wt k ((ownB ps).length : Int) p.a p.b)) = id from rfl, List.map_id]
      refine List.perm_append_comm.trans (List.Perm.append_left _ ?_)
      rw [← wls_fst]
      exact hperm.map _
    rw [merge_rows (hkeys.nodup_iff.mpr hnd')]
    have hG9 : (upd H8 G (.dK (kvsOf (rs ++ (ownB ps).map fun b => (b, wt k ((ownB ps).length : Int) p.a p.b))))) G = _ := upd_same
    have hne : ∀ {b : Addr} {o : HO}, H b = some o → b ≠ G := fun h => ne_of_none h hGn
    have hOG : O ≠ G := fun z => by
      have := g3 _ _ hO7
      rw [z, hG8] at this
      cases this
    have hO9 : (upd H8 G (.dK (kvsOf (rs ++ (ownB ps).map fun b => (b, wt k ((ownB ps).length : Int) p.a p.b))))) O = some (.lst ((ownB ps).map V.int)) := by
      rw [upd_ne hOG]
      exact g3 _ _ hO7
    have haG : a ≠ G := hne h1
    have h19 : (upd H8 G (.dK (kvsOf (rs ++ (ownB ps).map fun b => (b, wt k ((ownB ps).length : Int) p.a p.b))))) a = some (.tup [.int k, .ref c]) := by
      rw [upd_ne haG]
      exact g3 _ _ h17
    have e9 : Same H (upd H8 G (.dK (kvsOf (rs ++ (ownB ps).map fun b => (b, wt k ((ownB ps).length : Int) p.a p.b))))) := Same.upd' (e7.trans g3) hGn
    revert hG9 hO9 h19 e9
    generalize upd H8 G (.dK (kvsOf (rs ++ (ownB ps).map fun b => (b, wt k ((ownB ps).length : Int) p.a p.b)))) = H9
    intro hG9 hO9 h19 e9
    refine ⟨.int p.a, rfl, .ref a, rfl, a, _, 0, .int k, rfl, rfl, sqT h19, atI_nat (j := 0) rfl, _, _, rfl, rfl, _, rfl, _, _, rfl, rfl, .inl (small64 (by omega) (by omega)), _, _, rfl, rfl,
      .int p.b, rfl, .ref O, rfl, O, _, rfl, .inl (sqL hO9), .ref a, rfl, a, _, 0, .int k, rfl, rfl, sqT h19, atI_nat (j := 0) rfl, _, _, rfl, rfl, _, _, rfl, rfl, _, rfl, _, _, rfl, rfl, .inl (small64 (by rw [List.length_map]; omega) (by rw [List.length_map]; omega)), _, _, rfl, rfl,
      .ref G, rfl, (by show 3 ≤ sizeLine; decide), fun T hT' => ?_⟩
    have sT := same_new hT' (.tup [.int (p.a + (k - 1) * wt k ((ownB ps).length : Int) p.a p.b), .int (p.b + ((((ownB ps).map V.int).length : Int) - k + 1) * wt k ((ownB ps).length : Int) p.a p.b), .ref G])
    refine q T G _ _ _ _ (pw_more k (ownB ps) hpw) (e9.trans sT) ?_ ?_ (sT _ _ hG9) hGn
    · rw [wls_more k (ownB ps) hpw]
      exact List.perm_append_comm.trans (List.Perm.append_left _ hperm)
    · rw [upd_same, List.length_map]
theorem ok_weighed (B : Bi mg) (D : Df K mg "_law_weighed" (tp 59) ["_law_tree"]) (cT : Cal P w K mg base 1 "_law_trips" sp_own_trips) : ∀ n, Cal P w K mg base (n + 1) "_law_weighed" (sp_weighed n)
  | 0 => D.never fun vs H Q E h => by
    obtain ⟨v, t, _, _, _, _, _, _, _, _, _, hd, _⟩ := h
    exact absurd hd (Nat.not_lt_zero _)
  | n + 1 => weighed_step B D cT (ok_weighed B D cT n) (by omega)
end
end Ks
set_option maxRecDepth 100000
set_option maxHeartbeats 4000000
namespace Ks
open PySem PySem.Spec PyProof.Rows L2
/-! ### sums, bits, table -/
theorem sc_sums : FnScope ["_law_weights", "_law_found", "_law_weight", "_law_own"] ["_law_weights"] (defScope (tp 62)) := ⟨rfl, rfl, rfl, by decide +kernel, rfl, by decide +kernel, by decide +kernel⟩
abbrev bN : List Str := ["_law_tree", "_law_marks", "_law_full", "_law_rows", "_law_part", "_law_own", "_law_k"]
theorem sc_bits : FnScope bN ["_law_tree", "_law_marks", "_law_full"] (defScope (tp 61)) := ⟨rfl, rfl, rfl, by decide +kernel, rfl, by decide +kernel, by decide +kernel⟩
abbrev tN : List Str := ["_law_tree", "_law_buttons_here", "_law_full", "_law_marks", "_law_k", "_law_button"]
theorem sc_table : FnScope tN ["_law_tree", "_law_buttons_here"] (defScope (tp 60)) := ⟨rfl, rfl, rfl, by decide +kernel, rfl, by decide +kernel, by decide +kernel⟩
def sp_sums : Sp := fun vs H Q _ => ∃ (a : Addr) (ws : List Int), vs = [.ref a] ∧ H a = some (.lst (ws.map V.int)) ∧ ws.length ≤ 10 ∧ ∀ (p : Addr) (H2 : Hp), Same H H2 → H2 p = some (.lst ((sumsL ws).map V.int)) → Q (.ref p) H2
def sp_bits (Z : Nat) (S : Nat → Int → Bool) (n : Nat) : Sp := fun vs H Q _ => ∃ (v : V) (t : Tr) (M : Addr) (kvs : List (Key × V)) (F : Nat), vs = [v, .ref M, .int (F : Int)] ∧ TrAt H t v ∧ Nst t ∧ (btns t).length ≤ 60 ∧ H M = some (.dK kvs) ∧ Bits Z (fun _ => true) F ∧
  (∀ x ∈ btns t, ∃ m : Nat, valV kvs (.inl x) = some (.int (m : Int)) ∧ Bits Z (fun j => S j x) m) ∧ dep t < n ∧ ∀ (m : Nat) (H2 : Hp), Same H H2 → Bits Z (fun j => goes (S j) t) m → Q (.int (m : Int)) H2
def rV (ms : List Nat) : List V := ms.map fun (m : Nat) => V.int (m : Int)
theorem rV_at {ms : List Nat} {c : Nat} {m : Nat} (h : ms[c]? = some m) : (rV ms)[c]? = some (.int (m : Int)) := by
  unfold rV
  rw [List.getElem?_map, h]
  rfl
theorem ixN_nat {n c : Nat} (h : c < n) : ixN n (c : Int) = some c := by
  unfold ixN
  rw [if_pos (by omega), if_pos (by omega), Int.toNat_natCast]
theorem bit_or (x y : Nat) : Builtin.bitOr (x : Int) (y : Int) = ((x ||| y : Nat) : Int) := by
  rw [bitOr_nn (by omega) (by omega), Int.toNat_natCast, Int.toNat_natCast]
theorem bit_and (x y : Nat) : Builtin.bitAnd (x : Int) (y : Int) = ((x &&& y : Nat) : Int) := by
  rw [PyProof.Rows.bitAnd_pp (by omega) (by omega), Int.toNat_natCast, Int.toNat_natCast]
section
variable {P : Program} {w : World} {K : PySem.W.Frag} {mg : Str → Option Value} {base : Heap}
theorem ok_sums (D : Df K mg "_law_sums" (tp 62) ["_law_weights"]) : Cal P w K mg base 1 "_law_sums" sp_sums := by
  refine D.cal sc_sums (fun vs H Q E h => ?_) (fun f cdv A outer s H vs Q E hr h => ?_)
  · obtain ⟨a, ws, rfl, _⟩ := h
    rfl
  have nd := sc_sums.nd
  obtain ⟨a, ws, rfl, ha, hl, q⟩ := h
  refine ⟨_, pss_cons (ps_set (i := 1) nd rfl (.inl rfl) (pe_lst (pa_cons pe_int pa_nil)))
    (pss_cons (ps_for PassesOwn.never rfl (pi_list (pv 0)) (pg_name (i := 2) nd rfl (.inr rfl))
      (pss_one (ps_set (i := 1) nd rfl (.inl rfl) (pe_op op_cat (pv 1)
        (pe_lc (own := [("_law_own", 3)]) (g := gName 3) (tt := tYes) rfl nd (pi_list (pv 1)) (blkOk_by (N := ["_law_weights", "_law_found", "_law_weight", "_law_own"]) (sc := defScope (tp 62)) (by decide +kernel))
          (fun _ _ _ _ _ => pg_name (i := 3) nd rfl (Or.inl rfl)) (fun _ _ _ _ _ => pts_nil) (fun _ _ _ _ _ => pe_op op_add (pv 3) (pv 2)))))))
    (pss_one (ps_ret (pv 1)))), ?_⟩
  refine ⟨(by show 1 ≤ sizeLine; decide), fun F hF => ?_⟩
  have s1 := same_new hF (.lst [.int 0])
  refine ⟨.ref a, rfl, a, rfl, ⟨_, sqL (s1 _ _ ha)⟩, ?_⟩
  refine for_list (xs := ws.map V.int) (fun i σ H' => ∃ p o2 o3, σ = [some (.ref a), some (.ref p), o2, o3] ∧ H' p = some (.lst ((sumsL (ws.take i)).map V.int)) ∧ Same H H') ⟨F, _, _, rfl, upd_same, s1⟩ (fun i σ H' _ hp => ?_) (fun i x σ H' hx hp => ?_) (fun σ H' hp => ?_)
  · obtain ⟨p, o2, o3, rfl, g1, g2⟩ := hp
    exact sqL (g2 _ _ ha)
  · obtain ⟨p, o2, o3, rfl, g1, g2⟩ := hp
    rw [List.getElem?_map] at hx
    obtain ⟨c, hc, rfl⟩ := Option.map_eq_some_iff.mp hx
    have hi : i < ws.length := (List.getElem?_eq_some_iff.mp hc).1
    have hc' : ws[i] = c := (List.getElem?_eq_some_iff.mp hc).2
    have hsl : (sumsL (ws.take i)).length ≤ 1024 := by
      rw [sumsL_len, List.length_take]
      have : 2 ^ min i ws.length ≤ 2 ^ 10 := Nat.pow_le_pow_right (by decide) (by omega)
      omega
    refine ⟨.ref p, rfl, .ref p, rfl, p, rfl, ⟨_, sqL g1⟩, fun D hD => ?_⟩
    have hpD : p ≠ D := ne_of_none g1 hD
    refine lc_list (xs := (sumsL (ws.take i)).map V.int) (fun j H7 => H7 = upd H' D (.lst ((((sumsL (ws.take i)).take j).map (· + c)).map V.int))) rfl (fun j H7 _ hp => ?_) (fun j y H7 hy hp => ?_) (fun H7 hp => ?_)
    · subst hp
      exact sqL (same_new hD _ _ _ g1)
    · subst hp
      rw [List.getElem?_map] at hy
      obtain ⟨b, hb, rfl⟩ := Option.map_eq_some_iff.mp hy
      have hj : j < (sumsL (ws.take i)).length := (List.getElem?_eq_some_iff.mp hb).1
      have hb' : (sumsL (ws.take i))[j] = b := (List.getElem?_eq_some_iff.mp hb).2
      refine ⟨rfl, .int b, rfl, .int c, rfl, _, _, rfl, rfl, _, upd_same, lt_size (by simp; omega), ?_⟩
      rw [upd_upd, List.take_succ_eq_append_getElem hj, hb', List.map_append, List.map_append]
      rfl
    · subst hp
      rw [List.length_map, List.take_length]
      have s2 := same_new hD (.lst (((sumsL (ws.take i)).map (· + c)).map V.int))
      refine ⟨p, D, _, _, rfl, rfl, s2 _ _ g1, upd_same, le_size (by simp; omega), fun G hG => ?_⟩
      have s3 := same_new hG (.lst ((sumsL (ws.take i)).map V.int ++ ((sumsL (ws.take i)).map (· + c)).map V.int))
      refine ⟨G, _, _, rfl, ?_, g2.trans (s2.trans s3)⟩
      rw [upd_same, List.take_succ_eq_append_getElem hi, hc', sumsL_snoc, List.map_append]
  · obtain ⟨p, o2, o3, rfl, g1, g2⟩ := hp
    rw [List.length_map, List.take_length] at g1
    exact ⟨.ref p, rfl, q p H' g2 g1⟩
set_option maxHeartbeats 8000000 in
theorem bits_step {Z : Nat} {S : Nat → Int → Bool} {n j : Nat} (B : Bi mg) (D : Df K mg "_law_bits" (tp 61) ["_law_tree", "_law_marks", "_law_full"]) (cR : Cal P w K mg base j "_law_bits" (sp_bits Z S n)) : Cal P w K mg base (j + 1) "_law_bits" (sp_bits Z S (n + 1)) := by
  refine D.cal sc_bits (fun vs H Q E h => ?_) (fun f cdv A outer s H vs Q E hr h => ?_)
  · obtain ⟨v, t, M, kvs, F, rfl, _⟩ := h
    rfl
  have nd := sc_bits.nd
  have hu := hr.units
  have hu1 : (cxOf CX0 P w K mg base bN "_law_bits" (defScope (tp 61)) f cdv A outer s H E).nox.A.units + 1 < cLine := Nat.lt_of_le_of_lt (Nat.add_le_add_left (by decide) _) hu
  obtain ⟨v, t, M, kvs, F, rfl, ht, hN, hb, hM, hF, hW, hd, q⟩ := h
  refine ⟨_, pss_cons (ps_if (pt_val (pe_callB call_isi (by rfl) B.isinstance (by decide +kernel) (pa_cons (pv 0) (pa_cons (pe_bltn (v := .ty "int") (by rfl) B.int (by decide +kernel) rfl) pa_nil)))) (pss_one (ps_ret (pe_dget hu1 (pv 1) (pv 0) (fun _ _ => rfl)))) pss_nil)
    (pss_cons (ps_set (i := 3) nd rfl (.inl rfl) (pe_op op_cat (pe_lst (pa_cons (pv 2) pa_nil)) (pe_op op_rep (pe_lst (pa_cons pe_int pa_nil)) (pe_ix ix_tup (pv 0) pe_int (fun _ _ => rfl)))))
    (pss_cons (ps_for PassesOwn.never rfl (pi_tup (pe_ix ix_tup (pv 0) pe_int (fun _ _ => rfl))) (pg_name (i := 4) nd rfl (.inl rfl))
      (pss_cons (ps_set (i := 5) nd rfl (.inl rfl) (pc cR hr (Nat.le_refl _) (pa_cons (pv 4) (pa_cons (pv 1) (pa_cons (pv 2) pa_nil)))))
      (pss_one (ps_for PassesOwn.never rfl (pi_range3 (by rfl) B.range (pa_cons (pe_ix ix_tup (pv 0) pe_int (fun _ _ => rfl)) (pa_cons pe_int (pa_cons (pe_un un_neg pe_int) pa_nil)))) (pg_name (i := 6) nd rfl (.inl rfl))
        (pss_one (ps_asg (pe_op op_or (pe_ix ix_list (pv 3) (pv 6) (fun _ _ => rfl)) (pe_op op_and (pe_ix ix_list (pv 3) (pe_op op_sub (pv 6) pe_int) (fun _ _ => rfl)) (pv 5))) (pg_sub (pv 3) (pv 6) set_list)))))))
    (pss_one (ps_ret (pe_ix ix_list (pv 3) (pe_ix ix_tup (pv 0) pe_int (fun _ _ => rfl)) (fun _ _ => rfl)))))), ?_⟩
  refine ⟨v, rfl, v, .ty "int", _, _, _, rfl, .ty _, ht.tyX, kit_int t, _, rfl, ?_⟩
  cases t with
  | leaf b =>
    have hv := trAt_leaf.mp ht
    subst hv
    obtain ⟨m, w1, w2⟩ := hW b (by rw [btns]; exact .head _)
    have g := DGet.k (k := .inl b) hM
    rw [w1] at g
    exact iteT ⟨.ref M, rfl, .int b, rfl, M, .int (m : Int), rfl, g, q m H (Same.refl H) (w2.congr fun j _ => by rw [goes])⟩
  | node k ps =>
  obtain ⟨a, c, us, rfl, h1, h2, h3⟩ := trAt_node.mp ht
  have hul := h3.len
  cases hN with
  | node n0 n1 n2 np n3 =>
  have hpl := nsts_len np
  have hbn : btns (.node k ps) = ps.flatMap btns := btns_node k ps
  rw [hbn] at hb hW
  obtain ⟨K', rfl⟩ : ∃ K' : Nat, k = (K' : Int) := ⟨k.toNat, by omega⟩
  have hK1 : 1 ≤ K' := by omega
  have hK2 : K' ≤ ps.length := by omega
  refine iteF ⟨.int (F : Int), rfl, (by show 1 ≤ sizeLine; decide), fun A1 hA1 => ?_⟩
  have s1 := same_new hA1 (.lst [.int (F : Int)])
  refine ⟨(by show 1 ≤ sizeLine; decide), fun A2 hA2 => ?_⟩
  have s2 := same_new hA2 (.lst [.int 0])
  have s12 := s1.trans s2
  refine ⟨.ref a, rfl, a, _, 0, .int (K' : Int), rfl, rfl, sqT (s12 _ _ h1), atI_nat (j := 0) rfl, A2, (K' : Int), [.int 0], rfl, rfl, upd_same, by omega, ?_, le_size (by simp; omega), fun A3 hA3 => ?_⟩
  · have : (100 : Int) < 2 ^ 63 := by decide
    omega
  have s3 := same_new hA3 (.lst (List.replicate (K' : Int).toNat [V.int 0]).flatten)
  refine ⟨A1, A3, _, _, rfl, rfl, s3 _ _ (s2 _ _ upd_same), upd_same, le_size (by simp; omega), fun R hR => ?_⟩
  have s4 := same_new hR (.lst ([V.int (F : Int)] ++ (List.replicate (K' : Int).toNat [V.int 0]).flatten))
  have s14 := s12.trans (s3.trans s4)
  have hR0 : H R = none := Same.free (s12.trans s3) hR
  have hRl : (upd (upd (upd (upd H A1 (.lst [.int (F : Int)])) A2 (.lst [.int 0])) A3 (.lst (List.replicate (K' : Int).toNat [V.int 0]).flatten)) R (.lst ([V.int (F : Int)] ++ (List.replicate (K' : Int).toNat [V.int 0]).flatten))) R = some (.lst (rV (F :: List.replicate K' 0))) := by
    rw [upd_same, Int.toNat_natCast]
    unfold rV
    rw [List.map_cons, List.map_replicate]
    simp
  revert s14 hRl
  generalize upd (upd (upd (upd H A1 (.lst [.int (F : Int)])) A2 (.lst [.int 0])) A3 (.lst (List.replicate (K' : Int).toNat [V.int 0]).flatten)) R (.lst ([V.int (F : Int)] ++ (List.replicate (K' : Int).toNat [V.int 0]).flatten)) = H1
  intro s14 hRl
  clear s1 s2 s12 s3 s4 hA1 hA2 hA3 hR
  refine ⟨.ref a, rfl, a, _, 1, .ref c, rfl, rfl, sqT (s14 _ _ h1), atI_nat (j := 1) rfl, c, rfl, ⟨us, sqT (s14 _ _ h2)⟩, ?_⟩
  let Pv : Nat → L2.St → Hp → Prop := fun i σ H' => ∃ ms o4 o5 o6, σ = [some (.ref a), some (.ref M), some (.int (F : Int)), some (.ref R), o4, o5, o6] ∧ H' R = some (.lst (rV ms)) ∧ Same H H' ∧ ms.length = K' + 1 ∧
    ∀ c, c ≤ K' → ∃ m, ms[c]? = some m ∧ Bits Z (fun j => decide (c ≤ (ps.take i).countP (goes (S j)))) m
  refine for_tup (xs := us) Pv ⟨F :: List.replicate K' 0, _, _, _, rfl, hRl, s14, by simp, fun c hc => ?_⟩ (fun i σ H' _ hp => ?_) (fun i x σ H' hx hp => ?_) (fun σ H' hp => ?_)
  · cases c with
    | zero => exact ⟨F, rfl, hF.congr fun j _ => by simp⟩
    | succ c =>
      refine ⟨0, ?_, (Bits.zero Z).congr fun j _ => by simp⟩
      rw [List.getElem?_cons_succ, List.getElem?_replicate, if_pos (by omega)]
  · obtain ⟨ms, o4, o5, o6, rfl, g1, g2, g3, g4⟩ := hp
    exact sqT (g2 _ _ h2)
  · obtain ⟨ms, o4, o5, o6, rfl, g1, g2, g3, g4⟩ := hp
    have hi : i < ps.length := by
      have := (List.getElem?_eq_some_iff.mp hx).1
      omega
    obtain ⟨x', e, hxt⟩ := h3.get (i := i) (List.getElem?_eq_getElem hi)
    rw [hx] at e
    cases e
    have hm : ps[i] ∈ ps := List.getElem_mem hi
    have h5 := part_len hm
    have h6 := dep_mem hm
    rw [dep_node] at hd
    have hcnt : ∀ j, (ps.take (i + 1)).countP (goes (S j)) = (ps.take i).countP (goes (S j)) + if goes (S j) ps[i] = true then 1 else 0 := fun j => by
      rw [List.take_succ_eq_append_getElem hi, List.countP_append, List.countP_cons, List.countP_nil, Nat.zero_add]
    refine ⟨x, rfl, .ref M, rfl, .int (F : Int), rfl, x, ps[i], M, kvs, F, rfl, hxt.same g2, np _ hm, by omega, g2 _ _ hM, hF, fun y hy => hW y (List.mem_flatMap.mpr ⟨_, hm, hy⟩), by omega, fun mp H2 e2 hmp => ?_⟩
    generalize ps[i] = t at *
    have g1' := e2 _ _ g1
    have g2' := g2.trans e2
    refine ⟨.ref a, rfl, a, _, 0, .int (K' : Int), rfl, rfl, sqT (g2' _ _ h1), atI_nat (j := 0) rfl, 1, rfl, (K' : Int), 0, -1, ((K' : Int) - 0).toNat, rfl, RgC.neg ?_ ?_ (by decide) (by decide), ?_⟩
    · have : -(2 ^ 62) ≤ (0 : Int) := by decide
      omega
    · have : (100 : Int) < 2 ^ 62 := by decide
      omega
    rw [show ((K' : Int) - 0).toNat = K' by omega]
    refine for_rangeC (fun t' σ H' => ∃ ms o6, σ = [some (.ref a), some (.ref M), some (.int (F : Int)), some (.ref R), some x, some (.int (mp : Int)), o6] ∧ H' R = some (.lst (rV ms)) ∧ Same H H' ∧ ms.length = K' + 1 ∧
      ∀ c, c ≤ K' → ∃ m, ms[c]? = some m ∧ Bits Z (fun j => decide (c ≤ (ps.take i).countP (goes (S j)) + if K' - t' < c then (if goes (S j) t = true then 1 else 0) else 0)) m) ⟨ms, _, rfl, g1', g2', g3, fun c hc => ?_⟩ (fun t' σ H3 ht' hp => ?_) (fun σ H3 hp => ?_)
    · obtain ⟨m, b1, b2⟩ := g4 c hc
      exact ⟨m, b1, b2.congr fun j _ => by rw [if_neg (by omega), Nat.add_zero]⟩
    · obtain ⟨ms', o6', rfl, z1, z2, z3, z4⟩ := hp
      obtain ⟨c0, hc0⟩ : ∃ c0 : Nat, K' - t' = c0 + 1 := ⟨K' - t' - 1, by omega⟩
      have hidx : (K' : Int) + (t' : Int) * (-1) = ((c0 + 1 : Nat) : Int) := by omega
      obtain ⟨m0, a1, a2⟩ := z4 (c0 + 1) (by omega)
      obtain ⟨m1, b1, b2⟩ := z4 c0 (by omega)
      rw [hidx]
      refine ⟨.ref R, rfl, _, rfl, R, _, _, _, rfl, rfl, sqL z1, atI_nat (rV_at a1), .ref R, rfl, _, rfl, _, _, rfl, rfl, R, _, _, _, rfl, rfl, sqL z1, (by rw [show ((c0 + 1 : Nat) : Int) - 1 = (c0 : Int) by omega]; exact atI_nat (rV_at b1)), _, rfl, _, _, rfl, rfl, _, _, rfl, rfl, ?_⟩
      have hv : Builtin.bitOr (m0 : Int) (Builtin.bitAnd (m1 : Int) (mp : Int)) = ((m0 ||| (m1 &&& mp) : Nat) : Int) := by rw [bit_and, bit_or]
      refine ⟨.ref R, rfl, _, rfl, R, _, _, c0 + 1, rfl, rfl, z1, ixN_nat (by unfold rV; rw [List.length_map]; omega), ?_⟩
      · refine ⟨ms'.set (c0 + 1) (m0 ||| (m1 &&& mp)), _, rfl, ?_, Same.upd' z2 hR0, by rw [List.length_set]; exact z3, fun c hc => ?_⟩
        · rw [upd_same]
          unfold rV
          rw [List.map_set, ← hv]
        · by_cases e : c = c0 + 1
          · subst e
            refine ⟨m0 ||| (m1 &&& mp), ?_, (Bits.step a2 b2 hmp).congr fun j _ => ?_⟩
            · rw [List.getElem?_set_self (by omega)]
            · rw [if_neg (by omega), if_neg (by omega), if_pos (by omega)]
              cases goes (S j) t <;> simp <;> omega
          · obtain ⟨m, d1, d2⟩ := z4 c hc
            refine ⟨m, ?_, d2.congr fun j _ => ?_⟩
            · rw [List.getElem?_set_ne (by omega)]
              exact d1
            · by_cases e2 : K' - t' < c
              · rw [if_pos e2, if_pos (show K' - (t' + 1) < c by omega)]
              · rw [if_neg e2, if_neg (show ¬ K' - (t' + 1) < c by omega)]
    · obtain ⟨ms', o6', rfl, z1, z2, z3, z4⟩ := hp
      refine ⟨ms', _, _, _, rfl, z1, z2, z3, fun c hc => ?_⟩
      obtain ⟨m, d1, d2⟩ := z4 c hc
      refine ⟨m, d1, d2.congr fun j _ => ?_⟩
      rw [hcnt j, Nat.sub_self]
      by_cases e : 0 < c
      · rw [if_pos e]
      · rw [if_neg e]
        simp
        omega
  · obtain ⟨ms, o4, o5, o6, rfl, g1, g2, g3, g4⟩ := hp
    rw [hul, List.take_length] at g4
    obtain ⟨m, b1, b2⟩ := g4 K' (Nat.le_refl _)
    refine ⟨.ref R, rfl, .ref a, rfl, a, _, 0, .int (K' : Int), rfl, rfl, sqT (g2 _ _ h1), atI_nat (j := 0) rfl, R, _, (K' : Int), _, rfl, rfl, sqL g1, atI_nat (rV_at b1), q m H' g2 (b2.congr fun j _ => ?_)⟩
    rw [goes_node]
    by_cases e : K' ≤ ps.countP (goes (S j))
    · rw [decide_eq_true e, decide_eq_true (by omega)]
    · rw [decide_eq_false e, decide_eq_false (by omega)]
theorem ok_bits {Z : Nat} {S : Nat → Int → Bool} (B : Bi mg) (D : Df K mg "_law_bits" (tp 61) ["_law_tree", "_law_marks", "_law_full"]) : ∀ n, Cal P w K mg base n "_law_bits" (sp_bits Z S n)
  | 0 => D.never fun vs H Q E h => by
    obtain ⟨v, t, _, _, _, _, _, _, _, _, _, _, hd, _⟩ := h
    exact absurd hd (Nat.not_lt_zero _)
  | n + 1 => bits_step B D (ok_bits B D n)
end
end Ks
set_option maxRecDepth 100000
set_option maxHeartbeats 4000000
namespace Ks
open PySem PySem.Spec PyProof.Rows L2
/-! ### table -/
theorem shl1 (n : Nat) : (1 : Int) * 2 ^ (n : Int).toNat = ((2 ^ n : Nat) : Int) := by
  rw [Int.toNat_natCast, Int.one_mul, Int.natCast_pow]
  rfl
theorem two_le {k : Nat} (h : k ≤ 8) : 2 ^ k ≤ 256 := Nat.le_trans (Nat.pow_le_pow_right (by decide) h) (by decide)
theorem cshl {a : Nat} {b : Nat} (ha : a < 2 ^ 300) (hb : b ≤ 300) : CShl (a : Int) (b : Int) := by
  refine ⟨by omega, ?_⟩
  have h1 := intBits_le (a := (a : Int)) (k := 300) (by rw [Int.natAbs_natCast]; exact ha)
  have h2 : (600 : Int) ≤ 2 ^ 27 := by decide
  omega
theorem full_cast (n : Nat) : ((2 ^ 2 ^ n : Nat) : Int) - 1 = ((full n : Nat) : Int) := by
  unfold full
  have := Nat.two_pow_pos (2 ^ n)
  omega
theorem mark_cast (n k : Nat) : ((full n : Nat) : Int) / (((2 ^ 2 ^ k : Nat) : Int) + 1) * 2 ^ ((2 ^ k : Nat) : Int).toNat = ((mark n k : Nat) : Int) := by
  unfold mark
  rw [Int.toNat_natCast, Int.natCast_mul, Int.natCast_ediv, Int.natCast_pow, Int.natCast_add, Int.natCast_pow]
  rfl
theorem full_lt {n : Nat} (h : n ≤ 8) : full n < 2 ^ 300 := by
  unfold full
  have h1 : 2 ^ 2 ^ n ≤ 2 ^ 256 := Nat.pow_le_pow_right (by decide) (two_le h)
  have h2 : 2 ^ 256 < 2 ^ 300 := Nat.pow_lt_pow_right (by decide) (by decide)
  omega
theorem valV_mem {kvs : List (Key × V)} {k : Key} {v : V} (nd : (kvs.map (·.1)).Nodup) (h : (k, v) ∈ kvs) : valV kvs k = some v := by
  induction kvs with
  | nil => cases h
  | cons kv r ih =>
    have nd' := List.nodup_cons.mp nd
    rcases List.mem_cons.mp h with e | h
    · rw [valV_pos (by rw [← e])]
      rw [← e]
    · rw [valV_neg (fun e => nd'.1 (show kv.1 ∈ r.map (·.1) by rw [e]; exact List.mem_map_of_mem (f := fun x : Key × V => x.1) h))]
      exact ih nd'.2 h
def mrows (n : Nat) (B : List Int) : List (Int × Int) := B.zipIdx.map fun p => (p.1, ((mark n p.2 : Nat) : Int))
theorem mrows_len (n : Nat) (B : List Int) : (mrows n B).length = B.length := by simp [mrows]
theorem mrows_get {n : Nat} {B : List Int} {i : Nat} (h : i < B.length) : (mrows n B)[i]'(by rw [mrows_len]; exact h) = (B[i], ((mark n i : Nat) : Int)) := by
  simp [mrows]
theorem mrows_fst (n : Nat) (B : List Int) : (mrows n B).map (·.1) = B := by
  refine List.ext_getElem (by simp [mrows]) fun i h1 h2 => ?_
  rw [List.getElem_map, mrows_get h2]
def sp_table : Sp := fun vs H Q _ => ∃ (v : V) (t : Tr) (b : Addr) (B : List Int), vs = [v, .ref b] ∧ TrAt H t v ∧ Nst t ∧ (btns t).length ≤ 60 ∧ H b = some (.lst (B.map V.int)) ∧ B.Nodup ∧ B.length ≤ 8 ∧ (∀ x ∈ btns t, x ∈ B) ∧ dep t < 16 ∧
  ∀ (m : Nat) (H2 : Hp), Same H H2 → Bits (2 ^ B.length) (fun j => goes (lotOf B j) t) m → Q (.int (m : Int)) H2
section
variable {P : Program} {w : World} {K : PySem.W.Frag} {mg : Str → Option Value} {base : Heap}
set_option maxHeartbeats 8000000 in
theorem ok_table (B0 : Bi mg) (D : Df K mg "_law_table" (tp 60) ["_law_tree", "_law_buttons_here"]) (cB : ∀ Z S, Cal P w K mg base 16 "_law_bits" (sp_bits Z S 16)) : Cal P w K mg base 17 "_law_table" sp_table := by
  refine D.cal sc_table (fun vs H Q E h => ?_) (fun f cdv A outer s H vs Q E hr h => ?_)
  · obtain ⟨v, t, b, B, rfl, _⟩ := h
    rfl
  have nd := sc_table.nd
  obtain ⟨v, t, b, B, rfl, ht, hN, hfew, hb, hnd, h8, hin, hd, q⟩ := h
  refine ⟨_, pss_cons (ps_set (i := 2) nd rfl (.inr rfl) (pe_op op_sub (pe_op op_shlW pe_int (pe_op op_shlW pe_int (p_len B0.len (pv 1)))) pe_int))
    (pss_cons (ps_set (i := 3) nd rfl (.inl rfl) (pe_callTy (call_dictP rfl) (by rfl) B0.dict (by decide +kernel) (pa_cons
      (pe_lc (own := [("_law_k", 4), ("_law_button", 5)]) (g := gTup K 2 (gCons (gName 4) (gCons (gName 5) gNil))) (tt := tYes) rfl nd (pi_enum (by rfl) B0.enumerate (pa_cons (pv 1) pa_nil)) (blkOk_by (N := tN) (sc := defScope (tp 60)) (by decide +kernel))
        (fun _ _ _ _ _ => pg_tup rfl (pgs_cons (pg_name (i := 4) nd rfl (.inl rfl)) (pgs_cons (pg_name (i := 5) nd rfl (.inl rfl)) pgs_nil))) (fun _ _ _ _ _ => pts_nil)
        (fun _ _ _ _ _ => pe_tup (pa_cons (pv 5) (pa_cons (pe_op op_shlW (pe_op op_fdivW (pv 2) (pe_op op_add (pe_op op_shlW pe_int (pe_op op_shlW pe_int (pv 4))) pe_int)) (pe_op op_shlW pe_int (pv 4))) pa_nil)))) pa_nil)))
    (pss_one (ps_ret (pc (cB (2 ^ B.length) (fun j => lotOf B j)) hr (by decide) (pa_cons (pv 0) (pa_cons (pv 3) (pa_cons (pv 2) pa_nil))))))), ?_⟩
  have e8 : 2 ^ B.length ≤ 256 := two_le h8
  refine ⟨.ref b, rfl, b, _, rfl, .inl (sqL hb), _, _, rfl, rfl, ?_, _, _, rfl, rfl, ?_, _, _, rfl, rfl, ?_⟩
  · rw [List.length_map]
    exact cshl (a := 1) (Nat.one_lt_two_pow (by decide)) (by omega)
  · rw [List.length_map, shl1]
    exact cshl (a := 1) (Nat.one_lt_two_pow (by decide)) (by omega)
  have hfull : (1 : Int) * 2 ^ (1 * 2 ^ (((B.map V.int).length : Nat) : Int).toNat : Int).toNat - 1 = ((full B.length : Nat) : Int) := by
    rw [List.length_map, shl1, shl1, full_cast]
  refine ⟨.ref b, rfl, b, _, rfl, sqL hb, fun D hD => ?_⟩
  refine lc_it (walk_enum (K := K) (a := b) (xs := B.map V.int)) (fun i H' => ∃ as : List Addr, as.length = i ∧ H' D = some (.lst (as.map V.ref)) ∧ PsAt H' as ((mrows B.length B).take i) ∧ Same H H') ⟨[], rfl, upd_same, .nil, same_new hD _⟩ (fun i H' _ hp => ?_) (fun i x H' H'' hi hp hy => ?_) (fun H' hp => ?_)
  · obtain ⟨as, g0, g1, g2, g3⟩ := hp
    exact sqL (g3 _ _ hb)
  · obtain ⟨as, g0, g1, g2, g3⟩ := hp
    obtain ⟨T, x1, x2, rfl, hT, rfl, y1, y2⟩ := hy
    cases y1
    rw [List.length_map] at hi
    have y2 : (B.map V.int)[i]? = some x2 := y2
    rw [List.getElem?_map, List.getElem?_eq_getElem hi] at y2
    cases y2
    have s1 := same_new hT (.tup [.int (i : Nat), .int B[i]])
    have ei : 2 ^ i ≤ 256 := two_le (by omega)
    have hfl := full_lt h8
    have hk0 : (1 : Int) * 2 ^ ((i : Nat) : Int).toNat = ((2 ^ i : Nat) : Int) := shl1 i
    have hk1 : (1 : Int) * 2 ^ (1 * 2 ^ ((i : Nat) : Int).toNat : Int).toNat = ((2 ^ 2 ^ i : Nat) : Int) := by rw [shl1, shl1]
    have hq : ((full B.length : Nat) : Int) / (((2 ^ 2 ^ i : Nat) : Int) + 1) = ((full B.length / (2 ^ 2 ^ i + 1) : Nat) : Int) := by
      rw [Int.natCast_ediv, Int.natCast_add]
      rfl
    have hmk := mark_cast B.length i
    refine ⟨T, _, rfl, sqT upd_same, rfl, _, _, rfl, _, _, rfl, rfl, rfl, .int B[i], rfl, _, rfl, .int (i : Int), rfl, _, _, rfl, rfl, ?_, _, _, rfl, rfl, ?_, _, _, rfl, rfl, _, _, rfl, rfl, ?_, .int (i : Int), rfl, _, _, rfl, rfl, ?_, _, _, rfl, rfl, ?_, ?_⟩
    · exact cshl (a := 1) (Nat.one_lt_two_pow (by decide)) (by omega)
    · rw [shl1]
      exact cshl (a := 1) (Nat.one_lt_two_pow (by decide)) (by omega)
    · rw [hk1]
      have h1 : 2 ^ 2 ^ i ≤ 2 ^ 256 := Nat.pow_le_pow_right (by decide) ei
      have h2 : 2 ^ 256 + 1 < 2 ^ 300 := Nat.lt_of_le_of_lt (Nat.add_le_add_left (Nat.one_le_two_pow) _) (by rw [← Nat.two_mul, ← Nat.pow_succ']; exact Nat.pow_lt_pow_right (by decide) (by decide))
      revert h1
      generalize 2 ^ 2 ^ i = X
      intro h1
      refine wide_div (b := 300) (by omega) ?_ (by decide) (by decide)
      have h3 : ((X : Int) + 1).natAbs = X + 1 := by omega
      rw [h3]
      exact Nat.lt_of_le_of_lt (Nat.add_le_add_right h1 1) h2
    · exact cshl (a := 1) (Nat.one_lt_two_pow (by decide)) (by omega)
    · rw [hk1, hfull, hk0, hq]
      exact cshl (Nat.lt_of_le_of_lt (Nat.div_le_self _ _) hfl) (by omega)
    · refine ⟨(by show 2 ≤ sizeLine; decide), fun T2 hT2 => ?_⟩
      have hval : ∀ z : Int, z = ((full B.length : Nat) : Int) / (((2 ^ 2 ^ i : Nat) : Int) + 1) * 2 ^ ((2 ^ i : Nat) : Int).toNat → z = ((mark B.length i : Nat) : Int) := fun z hz => hz.trans hmk
      have s2 := same_new hT2 (.tup [.int B[i], .int ((mark B.length i : Nat) : Int)])
      have g1' := s2 _ _ (s1 _ _ g1)
      have goal : ∃ as' : List Addr, as'.length = i + 1 ∧ (upd (upd (upd H' T (.tup [.int (i : Nat), .int B[i]])) T2 (.tup [.int B[i], .int ((mark B.length i : Nat) : Int)])) D (.lst (as.map V.ref ++ [.ref T2]))) D = some (.lst (as'.map V.ref)) ∧ PsAt (upd (upd (upd H' T (.tup [.int (i : Nat), .int B[i]])) T2 (.tup [.int B[i], .int ((mark B.length i : Nat) : Int)])) D (.lst (as.map V.ref ++ [.ref T2]))) as' ((mrows B.length B).take (i + 1)) ∧ Same H (upd (upd (upd H' T (.tup [.int (i : Nat), .int B[i]])) T2 (.tup [.int B[i], .int ((mark B.length i : Nat) : Int)])) D (.lst (as.map V.ref ++ [.ref T2]))) := by
        refine ⟨as ++ [T2], by rw [List.length_append, g0]; rfl, ?_, ?_, Same.upd' (g3.trans (s1.trans s2)) hD⟩
        · rw [upd_same, List.map_append]
          rfl
        · have tk := (Same.tupK (s1.trans s2)).trans (tupK_lst (o := .lst (as.map V.ref ++ [V.ref T2])) g1')
          rw [List.take_succ_eq_append_getElem (by rw [mrows_len]; exact hi), mrows_get hi]
          unfold PsAt kvsOf
          rw [List.map_append]
          exact paired_app (g2.mono tk) (tupK_lst (o := .lst (as.map V.ref ++ [V.ref T2])) g1' _ _ upd_same)
      rw [← hmk, ← hk0, ← hk1, ← hfull] at goal g1'
      exact ⟨_, g1', lt_size (by rw [List.length_map]; omega), goal⟩
  · obtain ⟨as, g0, g1, g2, g3⟩ := hp
    rw [List.length_map, List.take_of_length_le (by rw [mrows_len]; exact Nat.le_refl _)] at g2
    refine ⟨D, as, kvsOf (mrows B.length B), rfl, sqL g1, Paired.mapP g2 fun p kv e => sqT e, fun M hM => ?_⟩
    rw [merge_rows0 (by rw [mrows_fst]; exact hnd)]
    have s2 := same_new hM (.dK (kvsOf (mrows B.length B)))
    have s := g3.trans s2
    refine ⟨v, rfl, .ref M, rfl, _, rfl, v, t, M, _, full B.length, by rw [← hfull]; rfl, ht.same s, hN, hfew, upd_same, full_bits _, fun x hx => ?_, hd, fun m H2 e2 hm => q m H2 (s.trans e2) hm⟩
    obtain ⟨i, hi⟩ := List.getElem?_of_mem (hin x hx)
    have hil : i < B.length := (List.getElem?_eq_some_iff.mp hi).1
    have hix : B[i] = x := (List.getElem?_eq_some_iff.mp hi).2
    refine ⟨mark B.length i, valV_mem (kvs_nodup (by rw [mrows_fst]; exact hnd)) ?_, (mark_bits h8 hil).congr fun j _ => (lot_at hnd j hi).symm⟩
    have : (x, ((mark B.length i : Nat) : Int)) ∈ mrows B.length B := by
      rw [← hix, ← mrows_get hil]
      exact List.getElem_mem _
    exact List.mem_map.mpr ⟨_, this, rfl⟩
end
end Ks
set_option maxRecDepth 100000
set_option maxHeartbeats 4000000
namespace Ks
open PySem PySem.Spec PyProof.Rows L2
/-! ### is_lots -/
abbrev lN : List Str := ["_law_tree", "_law_rows", "_law_bound", "_law_buttons_here", "_law_bits_here", "_law_sums_here", "_law_button", "_law_weight", "_law_k", "_law_own"]
theorem sc_lots : FnScope lN ["_law_tree"] (defScope (tp 64)) := ⟨rfl, rfl, rfl, by decide +kernel, rfl, by decide +kernel, by decide +kernel⟩
def sp_lots : Sp := fun vs H Q _ => ∃ (v : V) (t : Tr), vs = [v] ∧ Nest H t v ∧ (btns t).Nodup ∧ (btns t).length ≤ 8 ∧ ∀ H2, Same H H2 → Q (.bl true) H2
theorem eqvAll_ints : ∀ ns : List Int, PyData.eqvAll (ns.map PyData.int) (ns.map PyData.int) = true
  | [] => rfl
  | n :: r => by
    rw [List.map_cons, PyData.eqvAll, PyData.eqv, eqvAll_ints r, beq_self_eq_true]
    rfl
theorem sorted_uniq {a b : List Int} (h : a.Perm b) (ha : a.Pairwise (· ≤ ·)) (hb : b.Pairwise (· ≤ ·)) : a = b := List.Perm.eq_of_pairwise (le := fun x y => x ≤ y) (fun x y _ _ h1 h2 => by omega) ha hb h
theorem bit_one (m j : Nat) : Builtin.bitAnd ((m : Int) / 2 ^ ((j : Nat) : Int).toNat) 1 = if m.testBit j = true then 1 else 0 := by
  have e : (m : Int) / 2 ^ ((j : Nat) : Int).toNat = ((m / 2 ^ j : Nat) : Int) := by
    rw [Int.toNat_natCast, Int.natCast_ediv, Int.natCast_pow]
    rfl
  rw [e]
  have := bit_and (m / 2 ^ j) 1
  rw [show ((1 : Nat) : Int) = 1 from rfl] at this
  rw [this, Nat.and_one_is_mod, bit_val]
  split <;> rfl
section
variable {P : Program} {w : World} {K : PySem.W.Frag} {mg : Str → Option Value} {base : Heap}
/-- the first, the second of each of the rows, in a new list -/
theorem rows_lc {H1 : Hp} {S D : Addr} {us : List V} {rs : List (Int × Int)} {σ : L2.St} {i j : Nat} {Qd : Hp → Prop} {te : TE} (f : Int × Int → Int) (hat : RsAt H1 rs us) (hS : H1 S = some (.tup us)) (hD : H1 D = none) (hl : rs.length ≤ 60)
    (hte : ∀ (r : Int × Int) (H : Hp) (Q : VK), Q (.int (f r)) H → te (((wipe σ [i, j]).set i (some (.int r.1))).set j (some (.int r.2))) H Q) (hw : ∀ x y, wipe (((wipe σ [i, j]).set i (some x)).set j (some y)) [i, j] = wipe σ [i, j])
    (hd : Qd (upd H1 D (.lst ((rs.map f).map V.int)))) :
    ∃ W : Nat → Nat → Hp → Prop, (∃ m, W 0 m (upd H1 D (.lst []))) ∧ ∀ i' m H, W i' m H →
      ((Itt K S).stop i' H ∧ Qd H) ∨ ((Itt K S).go i' H ∧ ∃ Nx : Hp → Prop, (∀ H', Nx H' → ∃ m', m' < m ∧ W (i' + 1) m' H') ∧ ∀ x H', (Itt K S).yld i' H x H' → gTup K 2 (gCons (gName i) (gCons (gName j) gNil)) x (wipe σ [i, j]) H' fun σ2 H2 => wipe σ2 [i, j] = wipe σ [i, j] ∧ tYes σ2 H2 fun b H3 =>
        if b = true then te σ2 H3 fun y H4 => ∃ acc, H4 D = some (.lst acc) ∧ acc.length < sizeLine ∧ Nx (upd H4 D (.lst (acc ++ [y]))) else Nx H3) := by
  have ul := hat.len
  refine lc_tup (xs := us) (fun n H' => H' = upd H1 D (.lst (((rs.take n).map f).map V.int))) rfl (fun n H' _ hp => ?_) (fun n x H' hx hp => ?_) (fun H' hp => ?_)
  · subst hp
    exact sqT (same_new hD _ _ _ hS)
  · subst hp
    have hn : n < rs.length := by
      have := (List.getElem?_eq_some_iff.mp hx).1
      omega
    obtain ⟨a, ha, hta⟩ := hat.get (i := n) (List.getElem?_eq_getElem hn)
    rw [hx] at ha
    cases ha
    refine ⟨a, _, rfl, sqT (same_new hD _ _ _ hta), rfl, _, _, rfl, _, _, rfl, rfl, hw _ _, hte _ _ _ ⟨_, upd_same, lt_size (by simp; omega), ?_⟩⟩
    rw [upd_upd, List.take_succ_eq_append_getElem hn, List.map_append, List.map_append]
    rfl
  · subst hp
    rw [ul, List.take_length]
    exact hd
set_option maxHeartbeats 8000000 in
theorem ok_lots (B : Bi mg) (D : Df K mg "_law_is_lots" (tp 64) ["_law_tree"]) (cS : Cal P w K mg base 26 "scale_of" sp_scale) (cT : Cal P w K mg base 17 "_law_table" sp_table) (cU : Cal P w K mg base 1 "_law_sums" sp_sums) (cA : Cal P w K mg base 16 "_law_all" (sp_all 16)) :
    Cal P w K mg base 27 "_law_is_lots" sp_lots := by
  refine D.cal sc_lots (fun vs H Q E h => ?_) (fun f cdv A outer s H vs Q E hr h => ?_)
  · obtain ⟨v, t, rfl, _⟩ := h
    rfl
  have nd := sc_lots.nd
  have hu := hr.units
  obtain ⟨v, t, rfl, ht, hnd, h8, q⟩ := h
  refine ⟨_, pss_cons (ps_asg (pc cS hr (by decide) (pa_cons (pv 0) pa_nil)) (pg_tup rfl (pgs_cons (pg_name (i := 1) nd rfl (.inl rfl)) (pgs_cons (pg_name (i := 2) nd rfl (.inr rfl)) pgs_nil))))
    (pss_cons (ps_setLc (i := 3) (own := [("_law_button", 6), ("_law_weight", 7)]) (g := gTup K 2 (gCons (gName 6) (gCons (gName 7) gNil))) (tt := tYes) (te := tVar 6) (by rfl) nd rfl rfl (sw_true rfl rfl rfl (by decide +kernel))
        (pi_tup (pv 1)) (blkOk_by (N := lN) (sc := defScope (tp 64)) (by decide +kernel)) (fun _ _ _ _ _ => pg_tup rfl (pgs_cons (pg_name (i := 6) nd rfl (.inl rfl)) (pgs_cons (pg_name (i := 7) nd rfl (.inl rfl)) pgs_nil))) (fun _ _ _ _ _ => pts_nil) (fun _ _ _ _ _ => pv 6))
    (pss_cons (ps_asg (pe_tup (pa_cons (pc cT hr (by decide) (pa_cons (pv 0) (pa_cons (pv 3) pa_nil))) (pa_cons (pc cU hr (by decide) (pa_cons
        (pe_lc (own := [("_law_button", 6), ("_law_weight", 7)]) (g := gTup K 2 (gCons (gName 6) (gCons (gName 7) gNil))) (tt := tYes) rfl nd (pi_tup (pv 1)) (blkOk_by (N := lN) (sc := defScope (tp 64)) (by decide +kernel))
          (fun _ _ _ _ _ => pg_tup rfl (pgs_cons (pg_name (i := 6) nd rfl (.inl rfl)) (pgs_cons (pg_name (i := 7) nd rfl (.inl rfl)) pgs_nil))) (fun _ _ _ _ _ => pts_nil) (fun _ _ _ _ _ => pv 7)) pa_nil)) pa_nil)))
      (pg_tup rfl (pgs_cons (pg_name (i := 4) nd rfl (.inr rfl)) (pgs_cons (pg_name (i := 5) nd rfl (.inl rfl)) pgs_nil))))
    (pss_cons (ps_if (pt_cmpR (op_neD hu) (pv 3) (pc cA hr (by decide) (pa_cons (pv 0) pa_nil)) (by rfl)) (pss_one (ps_ret pe_bl)) pss_nil)
    (pss_one (ps_ret (pe_cmpR (op_eqD hu)
      (pe_lc (own := [("_law_k", 8), ("_law_own", 9)]) (g := gTup K 2 (gCons (gName 8) (gCons (gName 9) gNil))) rfl nd (pi_enum (by rfl) B.enumerate (pa_cons (pv 5) pa_nil)) (blkOk_by (N := lN) (sc := defScope (tp 64)) (by decide +kernel))
        (fun _ _ _ _ _ => pg_tup rfl (pgs_cons (pg_name (i := 8) nd rfl (.inl rfl)) (pgs_cons (pg_name (i := 9) nd rfl (.inl rfl)) pgs_nil)))
        (fun _ _ _ _ _ => pts_one (pt_cmpR op_ne (pe_callTy call_int1 (by rfl) B.int (by decide +kernel) (pa_cons (pe_cmpR op_ge (pv 9) (pv 2) (nomark _)) pa_nil)) (pe_op op_and (pe_op op_shr (pv 4) (pv 8)) pe_int) (nomark _)))
        (fun _ _ _ _ _ => pe_int)) (pe_lst pa_nil) (by rfl))))))), ?_⟩
  obtain ⟨L, hL, hok⟩ := lvs_of (red_Red ht.nst)
  obtain ⟨_, hfew, hperm⟩ := ht.ok hL
  refine ⟨v, rfl, v, t, L, rfl, ht, hnd, hL, fun T S p R rs us H2 hpw e2 hrows hT hS hat => ?_⟩
  have hlen : rs.length = (btns t).length := by
    have := hrows.keys.length_eq
    rw [List.length_map] at this
    rw [this, hperm.length_eq]
  have hkeys : (rs.map (·.1)).Perm (btns t) := hrows.keys.trans hperm
  refine ⟨T, _, rfl, sqT hT, rfl, _, _, rfl, _, _, rfl, rfl, .ref S, rfl, S, rfl, ⟨us, sqT hS⟩, fun B1 hB1 => ?_⟩
  refine rows_lc (i := 6) (j := 7) (fun r => r.1) hat hS hB1 (by omega) (fun r H Q q => ⟨.int r.1, rfl, q⟩) (fun _ _ => rfl) ?_
  have s1 := same_new hB1 (.lst ((rs.map fun r => r.1).map V.int))
  have hb1 : (upd H2 B1 (.lst ((rs.map fun r => r.1).map V.int))) B1 = _ := upd_same
  revert s1 hb1
  generalize upd H2 B1 (.lst ((rs.map fun r => r.1).map V.int)) = H3
  intro s1 hb1
  have e3 := e2.trans s1
  refine ⟨v, rfl, .ref B1, rfl, v, t, B1, rs.map fun r => r.1, rfl, ht.at'.same e3, ht.nst, ht.few, hb1, hrows.nodup, by rw [List.length_map]; omega, fun x hx => hkeys.mem_iff.mpr hx, ht.dp, fun m H4 e4 hbits => ?_⟩
  refine ⟨.ref S, rfl, S, rfl, ⟨us, sqT (e4 _ _ (s1 _ _ hS))⟩, fun W1 hW1 => ?_⟩
  refine rows_lc (i := 6) (j := 7) (fun r => r.2) (hat.mono (Same.tupK (s1.trans e4))) (e4 _ _ (s1 _ _ hS)) hW1 (by omega) (fun r H Q q => ⟨.int r.2, rfl, q⟩) (fun _ _ => rfl) ?_
  have s5 := same_new hW1 (.lst ((rs.map fun r => r.2).map V.int))
  refine ⟨W1, rs.map fun r => r.2, rfl, upd_same, by rw [List.length_map]; omega, fun S1 H6 e6 hS1 => ⟨(by show 2 ≤ sizeLine; decide), fun T2 hT2 => ?_⟩⟩
  have s7 := same_new hT2 (.tup [.int (m : Int), .ref S1])
  refine ⟨T2, _, rfl, sqT upd_same, rfl, _, _, rfl, _, _, rfl, rfl, ?_⟩
  have e7 := e4.trans (s5.trans (e6.trans s7))
  have hb7 := e7 _ _ hb1
  have hS7 := s7 _ _ hS1
  have eall := e3.trans e7
  revert hb7 hS7 eall
  generalize upd H6 T2 (.tup [.int (m : Int), .ref S1]) = H7
  intro hb7 hS7 eall
  refine ⟨.ref B1, rfl, v, rfl, v, t, rfl, ht.at'.same eall, ht.nst, ht.few, ht.dp, fun pA ms H8 e8 hpm hsrt hpA => ?_⟩
  have hms : (rs.map fun r => r.1) = ms := sorted_uniq (hkeys.trans hpm.symm) (List.pairwise_map.mpr (hrows.up.imp fun h => by omega)) hsrt
  refine ⟨.list ((rs.map fun r => r.1).map PyData.int), .list (ms.map PyData.int), .lst (sqL (e8 _ _ hb7)) (dp_ints _), .lst (sqL hpA) (dp_ints _), shaped_ints _, shaped_ints _, _, rfl, ?_⟩
  rw [← hms, PyData.eqv, eqvAll_ints]
  have hS8 := e8 _ _ hS7
  refine iteF ⟨.ref S1, rfl, S1, _, rfl, sqL hS8, fun D1 hD1 => ?_⟩
  have s9 := same_new hD1 (.lst [])
  refine lc_it (walk_enum (K := K) (a := S1) (xs := (sumsL (rs.map fun r => r.2)).map V.int)) (fun i H' => H' D1 = some (.lst []) ∧ Same H8 H') ⟨upd_same, s9⟩ (fun i H' _ hp => ?_) (fun i x H' H'' hi hp hy => ?_) (fun H' hp => ?_)
  · exact sqL (hp.2 _ _ hS8)
  · obtain ⟨g1, g2⟩ := hp
    obtain ⟨T3, x1, x2, rfl, hT3, rfl, y1, y2⟩ := hy
    cases y1
    have hj : i < 2 ^ rs.length := by
      rw [List.length_map, sumsL_len, List.length_map] at hi
      exact hi
    have y2 : ((sumsL (rs.map fun r => r.2)).map V.int)[i]? = some x2 := y2
    rw [List.getElem?_map, sumsL_at _ i (by rw [List.length_map]; exact hj)] at y2
    cases y2
    have s10 := same_new hT3 (.tup [.int (i : Nat), .int (bsum (rs.map fun r => r.2) i)])
    refine ⟨T3, _, rfl, sqT upd_same, rfl, _, _, rfl, _, _, rfl, rfl, rfl, .int (bsum (rs.map fun r => r.2) i), rfl, .int p.a, rfl, _, _, rfl, rfl, .inr ⟨_, rfl, .int (m : Int), rfl, .int (i : Nat), rfl, _, _, rfl, rfl, by omega, _, _, rfl, rfl, ?_⟩⟩
    have hbt : m.testBit i = decide (p.a ≤ bsum (rs.map fun r => r.2) i) := by
      refine (hbits.2 i (by rw [List.length_map]; exact hj)).trans ((red_goes _ ht.nst).symm.trans ?_)
      exact lots_told hL hok hpw hrows i
    have hv : (V.int (if decide (p.a ≤ bsum (rs.map fun r => r.2) i) = true then 1 else 0)) = V.int (Builtin.bitAnd ((m : Int) / 2 ^ ((i : Nat) : Int).toNat) 1) := by rw [bit_one, hbt]
    refine ⟨rfl, _, rfl, ?_⟩
    rw [decide_eq_true hv]
    refine iteF ⟨?_, Same.trans g2 s10⟩
    exact s10 _ _ g1
  · obtain ⟨g1, g2⟩ := hp
    refine rd_eq (xs := []) (ds := []) g1 (fun H' _ => .nil) (by decide) fun p5 hp5 => ?_
    exact q _ (eall.trans (e8.trans (g2.trans (same_new hp5 _))))
end
end Ks
set_option maxRecDepth 100000
set_option maxHeartbeats 4000000
namespace Ks
open PySem PySem.Spec PyProof.Rows L2
/-! ### is_least -/
abbrev eN : List Str := ["_law_tree", "_law_rows", "_law_bound", "_law_weights", "_law_bits_here", "_law_yes", "_law_no", "_law_number", "_law_some", "_law_sums_here", "_law_least_here", "_law_most", "_law_button", "_law_weight", "_law_k", "_law_own", "_law_due"]
theorem sc_least : FnScope eN ["_law_tree"] (defScope (tp 65)) := ⟨rfl, rfl, rfl, by decide +kernel, rfl, by decide +kernel, by decide +kernel⟩
def sp_least : Sp := fun vs H Q _ => ∃ (v : V) (t : Tr), vs = [v] ∧ Nest H t v ∧ (btns t).Nodup ∧ (btns t).length = 4 ∧ ∀ H2, Same H H2 → Q (.bl true) H2
theorem bsum_all (ws : List Int) {j : Nat} : (∀ i, i < ws.length → j.testBit i = true) → bsum ws j = ws.sum := by
  refine snoc_ind (P := fun ws => (∀ i, i < ws.length → j.testBit i = true) → bsum ws j = ws.sum) (fun _ => rfl) (fun l a ih h => ?_) ws
  rw [bsum_snoc, ih fun i hi => h i (by rw [List.length_append]; omega), if_pos (h _ (by rw [List.length_append]; exact Nat.lt_succ_self _)), List.sum_append]
  simp
theorem bsum_none (ws : List Int) : bsum ws 0 = 0 := by
  refine snoc_ind (P := fun ws => bsum ws 0 = 0) rfl (fun l a ih => ?_) ws
  rw [bsum_snoc, ih, Nat.zero_testBit]
  rfl
/-- the numbers below n whose bit is b -/
def pickN (m : Nat) (b : Bool) (n : Nat) : List Nat := (List.range n).filter fun j => m.testBit j == b
theorem pickN_succ (m : Nat) (b : Bool) (n : Nat) : pickN m b (n + 1) = pickN m b n ++ if (m.testBit n == b) = true then [n] else [] := by
  unfold pickN
  rw [List.range_succ, List.filter_append, List.filter_cons, List.filter_nil]
theorem pickN_len (m : Nat) (b : Bool) (n : Nat) : (pickN m b n).length ≤ n := by
  have := List.length_filter_le (fun j => m.testBit j == b) (List.range n)
  rw [List.length_range] at this
  exact this
theorem mem_pickN {m : Nat} {b : Bool} {n j : Nat} : j ∈ pickN m b n ↔ j < n ∧ m.testBit j = b := by
  unfold pickN
  rw [List.mem_filter, List.mem_range, beq_iff_eq]
section
variable {P : Program} {w : World} {K : PySem.W.Frag} {mg : Str → Option Value} {base : Heap}
/-- the sums at the places of a list -/
theorem sums_lc {H1 : Hp} {Y S D : Addr} {ys : List Nat} {ws : List Int} {σ : L2.St} {Qd : Hp → Prop} {te : TE} (hY : H1 Y = some (.lst (rV ys))) (hD : H1 D = none) (hl : ys.length ≤ 60) (hys : ∀ j ∈ ys, j < 2 ^ ws.length) (hS : H1 S = some (.lst ((sumsL ws).map V.int)))
    (hte : ∀ (j : Nat) (H : Hp) (Q : VK), (∃ x, H S = some (.lst ((sumsL ws).map V.int)) ∧ atI ((sumsL ws).map V.int) ((j : Nat) : Int) = some (.int x) ∧ Q (.int x) H) → te ((wipe σ [14]).set 14 (some (.int (j : Int)))) H Q) (hw : ∀ x, wipe ((wipe σ [14]).set 14 (some x)) [14] = wipe σ [14])
    (hd : Qd (upd H1 D (.lst ((ys.map (bsum ws)).map V.int)))) :
    ∃ W : Nat → Nat → Hp → Prop, (∃ m, W 0 m (upd H1 D (.lst []))) ∧ ∀ i' m H, W i' m H →
      ((Itl K Y).stop i' H ∧ Qd H) ∨ ((Itl K Y).go i' H ∧ ∃ Nx : Hp → Prop, (∀ H', Nx H' → ∃ m', m' < m ∧ W (i' + 1) m' H') ∧ ∀ x H', (Itl K Y).yld i' H x H' → gName 14 x (wipe σ [14]) H' fun σ2 H2 => wipe σ2 [14] = wipe σ [14] ∧ tYes σ2 H2 fun b H3 =>
        if b = true then te σ2 H3 fun y H4 => ∃ acc, H4 D = some (.lst acc) ∧ acc.length < sizeLine ∧ Nx (upd H4 D (.lst (acc ++ [y]))) else Nx H3) := by
  refine lc_list (xs := rV ys) (fun n H' => H' = upd H1 D (.lst (((ys.take n).map (bsum ws)).map V.int))) rfl (fun n H' _ hp => ?_) (fun n x H' hx hp => ?_) (fun H' hp => ?_)
  · subst hp
    exact sqL (same_new hD _ _ _ hY)
  · subst hp
    unfold rV at hx
    rw [List.getElem?_map] at hx
    obtain ⟨j, hj, rfl⟩ := Option.map_eq_some_iff.mp hx
    have hn : n < ys.length := (List.getElem?_eq_some_iff.mp hj).1
    have hj' : ys[n] = j := (List.getElem?_eq_some_iff.mp hj).2
    refine ⟨hw _, hte j _ _ ⟨bsum ws j, same_new hD _ _ _ hS, atI_nat ?_, ⟨_, upd_same, lt_size (by simp; omega), ?_⟩⟩⟩
    · rw [List.getElem?_map, sumsL_at ws j (hys j (List.mem_of_getElem? hj))]
      rfl
    · rw [upd_upd, List.take_succ_eq_append_getElem hn, hj', List.map_append, List.map_append]
      rfl
  · subst hp
    unfold rV
    rw [List.length_map, List.take_length]
    exact hd
theorem bit_tru {m i : Nat} {H : Hp} : TruV K (.int (Builtin.bitAnd ((m : Int) / 2 ^ (0 + (i : Int)).toNat) 1)) H (m.testBit i) := by
  rw [Int.zero_add, bit_one]
  show m.testBit i = ((if m.testBit i = true then (1 : Int) else 0) != 0)
  cases m.testBit i <;> rfl
set_option maxHeartbeats 16000000 in
theorem ok_least (B : Bi mg) (D : Df K mg "_law_is_least" (tp 65) ["_law_tree"]) (cS : Cal P w K mg base 26 "scale_of" sp_scale) (cT : Cal P w K mg base 17 "_law_table" sp_table) (cU : Cal P w K mg base 1 "_law_sums" sp_sums) :
    Cal P w K mg base 27 "_law_is_least" sp_least := by
  refine D.cal sc_least (fun vs H Q E h => ?_) (fun f cdv A outer s H vs Q E hr h => ?_)
  · obtain ⟨v, t, rfl, _⟩ := h
    rfl
  have nd := sc_least.nd
  have hu := hr.units
  obtain ⟨v, t, rfl, ht, hnd, h4, q⟩ := h
  refine ⟨_, pss_cons (ps_asg (pc cS hr (by decide) (pa_cons (pv 0) pa_nil)) (pg_tup rfl (pgs_cons (pg_name (i := 1) nd rfl (.inl rfl)) (pgs_cons (pg_name (i := 2) nd rfl (.inl rfl)) pgs_nil))))
    (pss_cons (ps_setLc (i := 3) (own := [("_law_button", 12), ("_law_weight", 13)]) (g := gTup K 2 (gCons (gName 12) (gCons (gName 13) gNil))) (tt := tYes) (te := tVar 13) (by rfl) nd rfl rfl (sw_true rfl rfl rfl (by decide +kernel))
        (pi_tup (pv 1)) (blkOk_by (N := eN) (sc := defScope (tp 65)) (by decide +kernel)) (fun _ _ _ _ _ => pg_tup rfl (pgs_cons (pg_name (i := 12) nd rfl (.inl rfl)) (pgs_cons (pg_name (i := 13) nd rfl (.inl rfl)) pgs_nil))) (fun _ _ _ _ _ => pts_nil) (fun _ _ _ _ _ => pv 13))
    (pss_cons (ps_set (i := 4) nd rfl (.inr rfl) (pc cT hr (by decide) (pa_cons (pv 0) (pa_cons
        (pe_lc (own := [("_law_button", 12), ("_law_weight", 13)]) (g := gTup K 2 (gCons (gName 12) (gCons (gName 13) gNil))) (tt := tYes) rfl nd (pi_tup (pv 1)) (blkOk_by (N := eN) (sc := defScope (tp 65)) (by decide +kernel))
          (fun _ _ _ _ _ => pg_tup rfl (pgs_cons (pg_name (i := 12) nd rfl (.inl rfl)) (pgs_cons (pg_name (i := 13) nd rfl (.inl rfl)) pgs_nil))) (fun _ _ _ _ _ => pts_nil) (fun _ _ _ _ _ => pv 12)) pa_nil))))
    (pss_cons (ps_par (i := 5) (j := 6) rfl nd rfl rfl (by decide) rfl rfl (pa_cons
        (pe_lc (own := [("_law_k", 14)]) (g := gName 14) (tt := tTru K (tOp (rI0 fun i j => .int (Builtin.bitAnd i j)) (tOp (rI (fun _ j => 0 ≤ j) fun i j => .int (i / 2 ^ j.toNat)) (tVar 4) (tVar 14)) (tC (.int 1)))) rfl nd (pi_range1 (by rfl) B.range (pa_cons pe_int pa_nil)) (blkOk_by (N := eN) (sc := defScope (tp 65)) (by decide +kernel))
          (fun _ _ _ _ _ => pg_name (i := 14) nd rfl (Or.inl rfl)) (fun _ _ _ _ _ => pts_one (pt_truth (pe_op op_and (pe_op op_shr (pv 4) (pv 14)) pe_int) (fun _ => rfl))) (fun _ _ _ _ _ => pv 14))
        (pa_cons
        (pe_lc (own := [("_law_k", 14)]) (g := gName 14) (tt := tNot (tTru K (tOp (rI0 fun i j => .int (Builtin.bitAnd i j)) (tOp (rI (fun _ j => 0 ≤ j) fun i j => .int (i / 2 ^ j.toNat)) (tVar 4) (tVar 14)) (tC (.int 1))))) rfl nd (pi_range1 (by rfl) B.range (pa_cons pe_int pa_nil)) (blkOk_by (N := eN) (sc := defScope (tp 65)) (by decide +kernel))
          (fun _ _ _ _ _ => pg_name (i := 14) nd rfl (Or.inl rfl)) (fun _ _ _ _ _ => pts_one (pt_not (pt_truth (pe_op op_and (pe_op op_shr (pv 4) (pv 14)) pe_int) (fun _ => rfl)))) (fun _ _ _ _ _ => pv 14)) pa_nil)) (by rfl))
    (pss_cons (ps_for PassesOwn.never rfl (pi_range1 (by rfl) B.range (pa_cons pe_int pa_nil)) (pg_name (i := 7) nd rfl (.inl rfl))
      (pss_cons (ps_set (i := 8) nd rfl (.inl rfl) (pe_lst (pa_cons (pe_op op_mod (pv 7) pe_int) (pa_cons (pe_op op_mod (pe_op op_fdiv (pv 7) pe_int) pe_int) (pa_cons (pe_op op_mod (pe_op op_fdiv (pv 7) pe_int) pe_int) (pa_cons (pe_op op_fdiv (pv 7) pe_int) pa_nil))))))
      (pss_cons (ps_set (i := 9) nd rfl (.inr rfl) (pc cU hr (by decide) (pa_cons (pv 8) pa_nil)))
      (pss_cons (ps_par (i := 10) (j := 11) rfl nd rfl rfl (by decide) rfl rfl (pa_cons
          (pe_callB (cr_min rfl) (by rfl) B.min PyProof.Rows.boot_min (pa_cons (pe_lc (own := [("_law_k", 14)]) (g := gName 14) (tt := tYes) (te := tOp (rIxL K) (tVar 9) (tVar 14)) rfl nd (pi_list (pv 5)) (blkOk_by (N := eN) (sc := defScope (tp 65)) (by decide +kernel))
            (fun _ _ _ _ _ => pg_name (i := 14) nd rfl (Or.inl rfl)) (fun _ _ _ _ _ => pts_nil) (fun _ _ _ _ _ => pe_ix ix_list (pv 9) (pv 14) (fun _ _ => rfl))) pa_nil))
          (pa_cons
          (pe_callB (cr_max rfl) (by rfl) (show mg "max" = none from B.max) PyProof.Rows.boot_max (pa_cons (pe_lc (own := [("_law_k", 14)]) (g := gName 14) (tt := tYes) (te := tOp (rIxL K) (tVar 9) (tVar 14)) rfl nd (pi_list (pv 6)) (blkOk_by (N := eN) (sc := defScope (tp 65)) (by decide +kernel))
            (fun _ _ _ _ _ => pg_name (i := 14) nd rfl (Or.inl rfl)) (fun _ _ _ _ _ => pts_nil) (fun _ _ _ _ _ => pe_ix ix_list (pv 9) (pv 14) (fun _ _ => rfl))) pa_nil)) pa_nil)) (by rfl))
      (pss_one (ps_if (PW.pt (pw_and (pt_cmpR op_gt (pv 10) (pv 11) (nomark _)) (pw_and1 (PW.pt (pw_or (pt_cmpR op_lt (pe_op op_add (pv 11) pe_int) (pv 2) (nomark _))
          (pw_or1 (pt_cmpR (op_neD hu) (pe_lc (own := [("_law_own", 15), ("_law_due", 16)]) (g := gTup K 2 (gCons (gName 15) (gCons (gName 16) gNil))) rfl nd (RZ.pi_zipA (by rfl) B.zip (pa_cons (pv 8) (pa_cons (pv 3) pa_nil))) (blkOk_by (N := eN) (sc := defScope (tp 65)) (by decide +kernel))
            (fun _ _ _ _ _ => pg_tup rfl (pgs_cons (pg_name (i := 15) nd rfl (.inl rfl)) (pgs_cons (pg_name (i := 16) nd rfl (.inl rfl)) pgs_nil))) (fun _ _ _ _ _ => pts_one (pt_cmpR op_lt (pv 15) (pv 16) (nomark _))) (fun _ _ _ _ _ => pe_int)) (pe_lst pa_nil) (by rfl)))))))) (pss_one (ps_ret pe_bl)) pss_nil))))))
    (pss_one (ps_ret pe_bl)))))), ?_⟩
  obtain ⟨L, hL, hok⟩ := lvs_of (red_Red ht.nst)
  obtain ⟨_, hfew, hperm⟩ := ht.ok hL
  refine ⟨v, rfl, v, t, L, rfl, ht, hnd, hL, fun T S p R rs us H2 hpw e2 hrows hT hS hat => ?_⟩
  have hkeys : (rs.map (·.1)).Perm (btns t) := hrows.keys.trans hperm
  have hlen : rs.length = 4 := by
    have := hkeys.length_eq
    rw [List.length_map] at this
    omega
  refine ⟨T, _, rfl, sqT hT, rfl, _, _, rfl, _, _, rfl, rfl, .ref S, rfl, S, rfl, ⟨us, sqT hS⟩, fun W hW => ?_⟩
  refine rows_lc (i := 12) (j := 13) (fun r => r.2) hat hS hW (by omega) (fun r H Q q => ⟨.int r.2, rfl, q⟩) (fun _ _ => rfl) ?_
  have s1 := same_new hW (.lst ((rs.map fun r => r.2).map V.int))
  have hW1 : (upd H2 W (.lst ((rs.map fun r => r.2).map V.int))) W = _ := upd_same
  revert s1 hW1
  generalize upd H2 W (.lst ((rs.map fun r => r.2).map V.int)) = H3
  intro s1 hW1
  have e3 := e2.trans s1
  refine ⟨v, rfl, .ref S, rfl, S, rfl, ⟨us, sqT (s1 _ _ hS)⟩, fun B1 hB1 => ?_⟩
  refine rows_lc (i := 12) (j := 13) (fun r => r.1) (hat.mono (Same.tupK s1)) (s1 _ _ hS) hB1 (by omega) (fun r H Q q => ⟨.int r.1, rfl, q⟩) (fun _ _ => rfl) ?_
  have s2 := same_new hB1 (.lst ((rs.map fun r => r.1).map V.int))
  refine ⟨v, t, B1, rs.map fun r => r.1, rfl, ht.at'.same (e3.trans s2), ht.nst, ht.few, upd_same, hrows.nodup, by rw [List.length_map]; omega, fun x hx => hkeys.mem_iff.mpr hx, ht.dp, fun m H4 e4 hbits => ?_⟩
  have hlen1 : (rs.map fun r => r.1).length = 4 := by rw [List.length_map]; exact hlen
  have hlen2 : (rs.map fun r => r.2).length = 4 := by rw [List.length_map]; exact hlen
  -- a bit says whether the lot of its number goes
  have hbit : ∀ j, j < 16 → m.testBit j = goes (lotOf (rs.map (·.1)) j) (red t) := fun j hj => (hbits.2 j (by rw [hlen1]; exact hj)).trans (red_goes _ ht.nst).symm
  have hgo : ∀ j, j < 16 → m.testBit j = decide (p.a ≤ bsum (rs.map (·.2)) j) := fun j hj => (hbit j hj).trans (lots_told hL hok hpw hrows j)
  have hT0 := tells hok hpw
  have h15 : m.testBit 15 = true := by
    rw [hgo 15 (by decide), bsum_all _ fun i hi => ?_]
    · have e1 : tot rs = tot (wls L) := tot_perm hrows.perm
      have e2 := hT0.sum
      have e3 := hT0.b
      have e4 : (rs.map (·.2)).sum = tot rs := rfl
      exact decide_eq_true (by omega)
    · have hi : i < 4 := by
        have := hlen2
        omega
      match i, hi with
      | 0, _ => rfl
      | 1, _ => rfl
      | 2, _ => rfl
      | 3, _ => rfl
  have h0 : m.testBit 0 = false := by
    rw [hgo 0 (by decide), bsum_none]
    have := hT0.a
    exact decide_eq_false (by omega)
  have e34 := e3.trans (s2.trans e4)
  have hW4 := e4 _ _ (s2 _ _ hW1)
  clear s2 hB1
  -- the numbers that go, those that don't
  refine ⟨16, rfl, by decide, by decide, fun Y hY => ?_⟩
  refine lc_range (lo := 0) (n := 16) (fun i H' => H' = upd H4 Y (.lst (rV (pickN m true i)))) rfl (fun i H' hi hp => ?_) (fun H' hp => ?_)
  · subst hp
    refine ⟨rfl, .int (m : Int), rfl, .int (0 + (i : Int)), rfl, _, _, rfl, rfl, by omega, _, _, rfl, rfl, m.testBit i, bit_tru, ?_⟩
    cases hb : m.testBit i with
    | false =>
      have hpk : pickN m true (i + 1) = pickN m true i := by rw [pickN_succ, hb]; simp
      refine iteF ?_
      rw [hpk]
    | true =>
      have hpk : pickN m true (i + 1) = pickN m true i ++ [i] := by rw [pickN_succ, hb]; simp
      rw [hpk]
      have := pickN_len m true i
      have hi : i < 16 := hi
      refine iteT ⟨_, rfl, _, upd_same, lt_size (by unfold rV; rw [List.length_map]; omega), ?_⟩
      rw [upd_upd]
      unfold rV
      rw [List.map_append, List.map_cons, List.map_nil, Int.zero_add]
  subst hp
  have s5 := same_new hY (.lst (rV (pickN m true 16)))
  refine ⟨16, rfl, by decide, by decide, fun N hN => ?_⟩
  have hYN : Y ≠ N := ne_of_none upd_same hN
  refine lc_range (lo := 0) (n := 16) (fun i H' => H' = upd (upd H4 Y (.lst (rV (pickN m true 16)))) N (.lst (rV (pickN m false i)))) rfl (fun i H' hi hp => ?_) (fun H' hp => ?_)
  · subst hp
    refine ⟨rfl, .int (m : Int), rfl, .int (0 + (i : Int)), rfl, _, _, rfl, rfl, by omega, _, _, rfl, rfl, m.testBit i, bit_tru, ?_⟩
    cases hb : m.testBit i with
    | true =>
      have hpk : pickN m false (i + 1) = pickN m false i := by rw [pickN_succ, hb]; simp
      refine iteF ?_
      rw [hpk]
    | false =>
      have hpk : pickN m false (i + 1) = pickN m false i ++ [i] := by rw [pickN_succ, hb]; simp
      rw [hpk]
      have := pickN_len m false i
      have hi : i < 16 := hi
      refine iteT ⟨_, rfl, _, upd_same, lt_size (by unfold rV; rw [List.length_map]; omega), ?_⟩
      rw [upd_upd]
      unfold rV
      rw [List.map_append, List.map_cons, List.map_nil, Int.zero_add]
  subst hp
  have s6 := same_new hN (.lst (rV (pickN m false 16)))
  have hY5 : (upd (upd H4 Y (.lst (rV (pickN m true 16)))) N (.lst (rV (pickN m false 16)))) Y = some (.lst (rV (pickN m true 16))) := by
    rw [upd_ne hYN]
    exact upd_same
  have hN5 : (upd (upd H4 Y (.lst (rV (pickN m true 16)))) N (.lst (rV (pickN m false 16)))) N = some (.lst (rV (pickN m false 16))) := upd_same
  have hW5 := s6 _ _ (s5 _ _ hW4)
  have e5 := e34.trans (s5.trans s6)
  refine ⟨_, _, rfl, ?_⟩
  revert hY5 hN5 hW5 e5
  generalize upd (upd H4 Y (.lst (rV (pickN m true 16)))) N (.lst (rV (pickN m false 16))) = H5
  intro hY5 hN5 hW5 e5
  clear s5 s6 hN hY
  refine ⟨625, rfl, by decide, by decide, ?_⟩
  refine for_range (lo := 0) (n := (625 : Int).toNat) (fun i σ H' => Same H5 H' ∧ ∃ o7 o8 o9 o10 o11, σ = [some v, some (.ref S), some (.int p.a), some (.ref W), some (.int (m : Int)), some (.ref Y), some (.ref N), o7, o8, o9, o10, o11, none, none, none, none, none]) ⟨Same.refl H5, _, _, _, _, _, rfl⟩ (fun i σ H' hi hp => ?_) (fun σ H' hp => ?_)
  · obtain ⟨e6, o7, o8, o9, o10, o11, rfl⟩ := hp
    generalize (0 + (i : Int)) = num
    refine ⟨.int num, rfl, _, _, rfl, rfl, (by show (0 : Int) < 5; decide), .int num, rfl, _, _, rfl, rfl, ⟨by decide, by decide⟩, _, _, rfl, rfl, (by show (0 : Int) < 5; decide), .int num, rfl, _, _, rfl, rfl, ⟨by decide, by decide⟩, _, _, rfl, rfl, (by show (0 : Int) < 5; decide), .int num, rfl, _, _, rfl, rfl, ⟨by decide, by decide⟩, (by show 4 ≤ sizeLine; decide), fun O hO => ?_⟩
    obtain ⟨ws, hws, hwl⟩ : ∃ ws : List Int, [V.int (num % 5), V.int (num / 5 % 5), V.int (num / 25 % 5), V.int (num / 125)] = ws.map V.int ∧ ws.length = 4 := ⟨[num % 5, num / 5 % 5, num / 25 % 5, num / 125], rfl, rfl⟩
    have s7 := same_new hO (.lst [V.int (num % 5), V.int (num / 5 % 5), V.int (num / 25 % 5), V.int (num / 125)])
    have hO7 : (upd H' O (.lst [V.int (num % 5), V.int (num / 5 % 5), V.int (num / 25 % 5), V.int (num / 125)])) O = some (.lst (ws.map V.int)) := by
      rw [upd_same, hws]
    refine ⟨.ref O, rfl, O, ws, rfl, hO7, by omega, fun S1 H8 e8 hS8 => ?_⟩
    have e7 := e6.trans (s7.trans e8)
    have hO8 := e8 _ _ hO7
    clear hO7 s7 hws
    have hy16 : ∀ j ∈ pickN m true 16, j < 2 ^ ws.length := fun j hj => by
      rw [hwl]
      exact (mem_pickN.mp hj).1
    have hn16 : ∀ j ∈ pickN m false 16, j < 2 ^ ws.length := fun j hj => by
      rw [hwl]
      exact (mem_pickN.mp hj).1
    have ly := pickN_len m true 16
    have ln := pickN_len m false 16
    refine ⟨.ref Y, rfl, Y, rfl, ⟨_, sqL (e7 _ _ hY5)⟩, fun D1 hD1 => ?_⟩
    refine sums_lc (S := S1) (e7 _ _ hY5) hD1 (by omega) hy16 hS8 (fun j H Q h => ?_) (fun _ => rfl) ?_
    · obtain ⟨x, c1, c2, c3⟩ := h
      exact ⟨.ref S1, rfl, .int (j : Int), rfl, S1, _, _, _, rfl, rfl, sqL c1, c2, c3⟩
    have s9 := same_new hD1 (.lst (((pickN m true 16).map (bsum ws)).map V.int))
    refine ⟨D1, _, rfl, sqL upd_same, ?_, fun lo hlo hloM => ?_⟩
    · rw [List.length_map]
      exact List.length_pos_of_mem (mem_pickN.mpr ⟨by decide, h15⟩)
    refine ⟨.ref N, rfl, N, rfl, ⟨_, sqL (s9 _ _ (e7 _ _ hN5))⟩, fun D2 hD2 => ?_⟩
    refine sums_lc (S := S1) (s9 _ _ (e7 _ _ hN5)) hD2 (by omega) hn16 (s9 _ _ hS8) (fun j H Q h => ?_) (fun _ => rfl) ?_
    · obtain ⟨x, c1, c2, c3⟩ := h
      exact ⟨.ref S1, rfl, .int (j : Int), rfl, S1, _, _, _, rfl, rfl, sqL c1, c2, c3⟩
    have s10 := same_new hD2 (.lst (((pickN m false 16).map (bsum ws)).map V.int))
    refine ⟨D2, _, rfl, sqL upd_same, ?_, fun hi' hhi hhiM => ⟨_, _, rfl, ?_⟩⟩
    · rw [List.length_map]
      exact List.length_pos_of_mem (mem_pickN.mpr ⟨by decide, h0⟩)
    have e10 := s9.trans s10
    have hO10 := e10 _ _ hO8
    have hW10 := e10 _ _ (e7 _ _ hW5)
    have e11 := e7.trans e10
    revert hO10 hW10 e11
    generalize upd (upd H8 D1 (.lst (((pickN m true 16).map (bsum ws)).map V.int))) D2 (.lst (((pickN m false 16).map (bsum ws)).map V.int)) = H10
    intro hO10 hW10 e11
    clear s9 s10 e10 hD1 hD2
    refine ⟨.int lo, rfl, .int hi', rfl, _, _, rfl, rfl, _, rfl, ?_⟩
    by_cases hlt : hi' < lo
    · rw [decide_eq_true hlt]
      have sep : ∀ i j, i < 2 ^ rs.length → j < 2 ^ rs.length → goes (lotOf (rs.map (·.1)) i) (red t) = true → goes (lotOf (rs.map (·.1)) j) (red t) = false → bsum ws j < bsum ws i := fun i j hi hj gi gj => by
        rw [hlen] at hi hj
        have a1 := hloM _ (List.mem_map_of_mem (f := bsum ws) (mem_pickN.mpr ⟨hi, (hbit i hi).trans gi⟩))
        have a2 := hhiM _ (List.mem_map_of_mem (f := bsum ws) (mem_pickN.mpr ⟨hj, (hbit j hj).trans gj⟩))
        omega
      obtain ⟨⟨j, hj, gj, hpj⟩, each⟩ := least_told hL hok hpw hrows (ws := ws) (by rw [hwl, hlen]) sep
      rw [hlen] at hj
      have a2 := hhiM _ (List.mem_map_of_mem (f := bsum ws) (mem_pickN.mpr ⟨hj, (hbit j hj).trans gj⟩))
      refine iteT ⟨.int hi', rfl, _, _, rfl, rfl, .int p.a, rfl, _, _, rfl, rfl, _, rfl, ?_⟩
      rw [decide_eq_false (by omega)]
      refine iteF ⟨.ref O, rfl, .ref W, rfl, O, W, _, _, rfl, .inl ⟨sqL hO10, sqL hW10, fun D3 hD3 => ?_⟩⟩
      have s12 := same_new hD3 (.lst [])
      refine lc_it (walk_zip (K := K) (a := O) (b := W) (xs := ws.map V.int) (ys := (rs.map fun r => r.2).map V.int) (n := 4) (by rw [List.length_map, List.length_map, hwl, hlen2]; rfl)) (fun i H' => H' D3 = some (.lst []) ∧ Same H10 H') ⟨upd_same, s12⟩ (fun i H' _ hp => ?_) (fun i x H' H'' hi hp hy => ?_) (fun H' hp => ?_)
      · exact ⟨sqL (hp.2 _ _ hO10), sqL (hp.2 _ _ hW10)⟩
      · obtain ⟨c1, c2⟩ := hp
        obtain ⟨T3, x1, x2, rfl, hT3, rfl, y1, y2⟩ := hy
        have y1 : (ws.map V.int)[i]? = some x1 := y1
        have y2 : ((rs.map fun r => r.2).map V.int)[i]? = some x2 := y2
        rw [List.getElem?_map] at y1 y2
        obtain ⟨own, ho, rfl⟩ := Option.map_eq_some_iff.mp y1
        obtain ⟨due, hd', rfl⟩ := Option.map_eq_some_iff.mp y2
        have hle := each i own due ho hd'
        have s13 := same_new hT3 (.tup [.int own, .int due])
        refine ⟨T3, _, rfl, sqT upd_same, rfl, _, _, rfl, _, _, rfl, rfl, rfl, .int own, rfl, .int due, rfl, _, _, rfl, rfl, _, rfl, ?_⟩
        rw [decide_eq_false (by omega)]
        exact iteF ⟨s13 _ _ c1, c2.trans s13⟩
      · obtain ⟨c1, c2⟩ := hp
        refine rd_ne (xs := []) (ds := []) c1 (fun H' _ => .nil) (by decide) fun p5 hp5 => ⟨_, rfl, ?_⟩
        exact iteF ⟨e11.trans (c2.trans (same_new hp5 _)), _, _, _, _, _, rfl⟩
    · rw [decide_eq_false hlt]
      exact iteF ⟨e11, _, _, _, _, _, rfl⟩
  · obtain ⟨e6, _⟩ := hp
    exact q H' (e5.trans e6)
end
end Ks
set_option maxRecDepth 100000
set_option maxHeartbeats 4000000
namespace Ks
open PySem PySem.Spec PyProof.Rows L2
/-! ### data that repr can show -/
structure Sm (d : PyData) (c : Nat) : Prop where
  sh : d.showable = true
  lv : d.leavesShort 100 = true
  hd : d.hasDict = false
  wt : d.weight ≤ c
theorem log_lt {i : Int} (h : i.natAbs < 2 ^ 64) : i.natAbs.log2 < 64 := PySem.Flt.log2_lt_of (by decide) h
theorem Sm.int {i : Int} (h : i.natAbs < 2 ^ 64) : Sm (.int i) 64 := by
  have h1 := log_lt h
  refine ⟨?_, ?_, by rw [PyData.hasDict], ?_⟩
  · rw [PyData.showable]
    exact decide_eq_true (by omega)
  · rw [PyData.leavesShort]
    refine decide_eq_true ?_
    rw [PyData.shown_int, PySem.ofString_length]
    have := int_text_length_le (by decide) h1
    omega
  · rw [PyData.weight]
    split
    · exact Nat.zero_le _
    · omega
theorem sh_all : ∀ {ds : List PyData}, (∀ d ∈ ds, d.showable = true ∧ d.leavesShort 100 = true ∧ d.hasDict = false) → PyData.showableAll ds = true ∧ PyData.leavesShortAll 100 ds = true ∧ PyData.hasDictAll ds = false
  | [], _ => ⟨by rw [PyData.showableAll], by rw [PyData.leavesShortAll], by rw [PyData.hasDictAll]⟩
  | d :: r, h => by
    obtain ⟨h1, h2, h3⟩ := h d (.head _)
    obtain ⟨a, b, e⟩ := sh_all fun x hx => h x (.tail _ hx)
    exact ⟨by rw [PyData.showableAll, h1, a]; rfl, by rw [PyData.leavesShortAll, h2, b]; rfl, by rw [PyData.hasDictAll, h3, e]; rfl⟩
theorem Sm.all {c : Nat} {ds : List PyData} (h : ∀ d ∈ ds, Sm d c) : PyData.showableAll ds = true ∧ PyData.leavesShortAll 100 ds = true ∧ PyData.hasDictAll ds = false ∧ PyData.weightAll ds ≤ ds.length * (c + 1) := by
  obtain ⟨a, b, e⟩ := sh_all (ds := ds) fun d hd => ⟨(h d hd).sh, (h d hd).lv, (h d hd).hd⟩
  refine ⟨a, b, e, ?_⟩
  clear a b e
  induction ds with
  | nil => rw [PyData.weightAll]; exact Nat.zero_le _
  | cons d r ih =>
    have h1 := (h d (.head _)).wt
    have h2 := ih fun x hx => h x (.tail _ hx)
    rw [PyData.weightAll, List.length_cons, Nat.succ_mul]
    omega
theorem Sm.tup {c n : Nat} {ds : List PyData} (h : ∀ d ∈ ds, Sm d c) (hn : ds.length * (c + 1) ≤ n) : Sm (.tuple ds) n := by
  obtain ⟨a, b, e, f⟩ := Sm.all h
  exact ⟨by rw [PyData.showable]; exact a, by rw [PyData.leavesShort]; exact b, by rw [PyData.hasDict]; exact e, by rw [PyData.weight]; omega⟩
theorem Sm.lst {c n : Nat} {ds : List PyData} (h : ∀ d ∈ ds, Sm d c) (hn : ds.length * (c + 1) ≤ n) : Sm (.list ds) n := by
  obtain ⟨a, b, e, f⟩ := Sm.all h
  exact ⟨by rw [PyData.showable]; exact a, by rw [PyData.leavesShort]; exact b, by rw [PyData.hasDict]; exact e, by rw [PyData.weight]; omega⟩
theorem Sm.mono {d : PyData} {c n : Nat} (h : Sm d c) (hn : c ≤ n) : Sm d n := ⟨h.sh, h.lv, h.hd, Nat.le_trans h.wt hn⟩
theorem Sm.two {d e : PyData} {c n : Nat} (h : Sm d c) (h' : Sm e c) (hn : 2 * (c + 1) ≤ n) : Sm (.tuple [d, e]) n := Sm.tup (c := c) (fun x hx => by
  rcases List.mem_cons.mp hx with rfl | hx
  · exact h
  · rw [List.mem_singleton.mp hx]
    exact h') hn
theorem Sm.fits {d : PyData} {c : Nat} (h : Sm d c) (hc : c ≤ 150000) : d.shown.length ≤ sizeLine := by
  have h1 := PyData.shown_le 100 (by decide) d h.lv
  have h2 := h.wt
  rw [sizeLine_eq]
  omega
/-! ### a nest's data -/
theorem weightAll_le {f : Tr → Nat} : ∀ {ps : List Tr}, (∀ p ∈ ps, (treeD p).weight + 1 ≤ f p) → PyData.weightAll (treesD ps) ≤ (ps.map f).sum
  | [], _ => by rw [treesD, PyData.weightAll]; exact Nat.zero_le _
  | p :: r, h => by
    rw [treesD, PyData.weightAll, List.map_cons, List.sum_cons]
    have h1 := h p (.head _)
    have h2 := weightAll_le fun x hx => h x (.tail _ hx)
    omega
theorem sum_btns (c : Nat) : ∀ ps : List Tr, (ps.map fun p => c * (btns p).length).sum = c * (ps.flatMap btns).length
  | [] => by simp
  | p :: r => by
    rw [List.map_cons, List.sum_cons, sum_btns c r, List.flatMap_cons, List.length_append, Nat.mul_add]
theorem treeD_ok {t : Tr} (h : Nst t) (hs : ∀ b ∈ btns t, 0 ≤ b ∧ b ≤ 1000) (hl : (btns t).length ≤ 60) : (treeD t).showable = true ∧ (treeD t).leavesShort 100 = true ∧ (treeD t).hasDict = false ∧ (treeD t).weight + 1 ≤ 67 * (dep t + 1) * (btns t).length := by
  have small : ∀ i : Int, 0 ≤ i → i ≤ 1000 → i.natAbs < 2 ^ 64 := fun i a b => by
    have : 1001 < 2 ^ 64 := by decide
    omega
  induction h with
  | leaf b =>
    rw [btns] at hs
    have hb := hs b (.head _)
    have q := Sm.int (small b hb.1 hb.2)
    rw [treeD]
    refine ⟨q.sh, q.lv, q.hd, ?_⟩
    have := q.wt
    rw [dep, btns]
    simp
    omega
  | @node k ps h0 h1 h2 hp h3 ih =>
    have hpl := nsts_len hp
    rw [btns_node] at hs hl ⊢
    have each : ∀ p ∈ ps, _ := fun p hm => ih p hm (fun b hb => hs b (List.mem_flatMap.mpr ⟨p, hm, hb⟩)) (Nat.le_trans (part_len hm) hl)
    have k1 := Sm.int (small k (by omega) (by omega))
    obtain ⟨a, b, e⟩ := sh_all (ds := treesD ps) fun d hd => by
      rw [treesD_eq] at hd
      obtain ⟨p, hp', rfl⟩ := List.mem_map.mp hd
      exact ⟨(each p hp').1, (each p hp').2.1, (each p hp').2.2.1⟩
    rw [treeD]
    refine ⟨?_, ?_, ?_, ?_⟩
    · simp only [PyData.showable, PyData.showableAll, a, Bool.and_true]
      have := k1.sh
      rw [PyData.showable] at this
      exact this
    · simp only [PyData.leavesShort, PyData.leavesShortAll, b, Bool.and_true]
      have := k1.lv
      rw [PyData.leavesShort] at this
      exact this
    · simp only [PyData.hasDict, PyData.hasDictAll, e, Bool.or_false]
    · have hw := weightAll_le (ps := ps) (f := fun p => 67 * (depL ps + 1) * (btns p).length) fun p hp' => by
        refine Nat.le_trans (each p hp').2.2.2 (Nat.mul_le_mul_right _ (Nat.mul_le_mul_left _ ?_))
        have := dep_mem hp'
        omega
      rw [sum_btns] at hw
      have hk := k1.wt
      have hpos : 1 ≤ (ps.flatMap btns).length := by
        have := List.length_pos_iff.mpr h0
        omega
      simp only [PyData.weight, PyData.weightAll] at hk ⊢
      rw [dep_node, Nat.mul_succ, Nat.add_mul]
      omega
theorem Sm.tree {t : Tr} (h : Nst t) (hs : ∀ b ∈ btns t, 0 ≤ b ∧ b ≤ 1000) (hl : (btns t).length ≤ 60) (hd : dep t < 16) : Sm (treeD t) 70000 := by
  obtain ⟨a, b, e, f⟩ := treeD_ok h hs hl
  refine ⟨a, b, e, ?_⟩
  have : 67 * (dep t + 1) * (btns t).length ≤ 67 * 16 * 60 := Nat.mul_le_mul (Nat.mul_le_mul_left _ (by omega)) hl
  omega
/-! ### repr of any such value -/
section
variable {X : Cx} {p pos : Pos} {e : Expr}
theorem p_reprV (hg : Gl X "repr") (hm : X.mg "repr" = none) (g : NoG X.A) (hu : X.A.units + 64 < cLine) {te : TE} (he : PE X e te) (hs : starEach [e] X.env = (false, eval e X.env) :: starEach [] X.env := by rfl) (hpl : (backTo pos (starEach ([] : List Expr) X.env)).any (·.1) = false := by rfl) :
    PE X (.Call (.Name "repr" p) [e] [] pos) (tCB (fun vs H Q => ∃ v d c, vs = [v] ∧ Dp X.K H v d ∧ Sm d c ∧ c ≤ 150000 ∧ d.depth ≤ 60 ∧ ((∃ a, v = V.ref a) ∨ ∃ i, v = V.int i) ∧ Q (.str d.shown) H) (tCons te tNil)) := by
  have boot : bootBuiltins "repr" = some (.builtin "repr") := by decide +kernel
  refine pe_callB (id := "repr") (r := fun vs H Q => ∃ v d c, vs = [v] ∧ Dp X.K H v d ∧ Sm d c ∧ c ≤ 150000 ∧ d.depth ≤ 60 ∧ ((∃ a, v = V.ref a) ∨ ∃ i, v = V.int i) ∧ Q (.str d.shown) H) ?_ hg hm boot (pa_cons he pa_nil hs) (by decide) (by decide) hs hpl
  intro pins s σ H vs us Q I r h
  obtain ⟨v, d, c, rfl, hd, hc, hc2, hdep, hv, q⟩ := h
  rcases hv with ⟨a, rfl⟩ | ⟨i, rfl⟩
  · rw [Vals.ref1 r]
    obtain ⟨as, rd⟩ := Dp.reads I d (.ref a) (.ref a) hd rfl
    refine repr_of_reads' rd hc.sh (fun z => by rw [hc.hd] at z; cases z) g (by omega) (fun b o e => e) (fun h' u tk hk => ?_) (hc.fits hc2)
    exact ⟨.str d.shown, H, I.kept (t' := tk) hk, ⟨u, rfl⟩, q⟩
  · cases hd
    have hsh := hc.sh
    rw [PyData.showable] at hsh
    rw [PyData.shown_int] at q
    exact SkE.call_repr_int pins s σ H _ us Q I r ⟨i, rfl, of_decide_eq_true hsh, q⟩
end
end Ks
set_option maxRecDepth 100000
set_option maxHeartbeats 4000000
namespace Ks
open PySem PySem.Spec PyProof.Rows L2
/-! ### is_told -/
abbrev iN : List Str := ["_law_tree", "_law_is_named", "_law_a", "_law_b", "_law_weights", "_law_rows", "_law_seen", "_law_button"]
theorem sc_istold : FnScope iN ["_law_tree", "_law_is_named"] (defScope (tp 63)) := ⟨rfl, rfl, rfl, by decide +kernel, rfl, by decide +kernel, by decide +kernel⟩
def sp_istold : Sp := fun vs H Q _ => ∃ (v : V) (t : Tr) (b : Bool), vs = [v, .bl b] ∧ Nest H t v ∧ (btns t).Nodup ∧ (∀ b ∈ btns t, 0 ≤ b ∧ b ≤ 1000) ∧ ∀ H2, Same H H2 → Q (.bl true) H2
theorem wl_mem {r : Int × Int} : ∀ {L : List Lv} {R : List Pw}, r ∈ wl L R → ∃ p ∈ R, r.2 = p.w
  | [], _, h => by
    rw [wl] at h
    cases h
  | _ :: _, [], h => by
    rw [wl] at h
    cases h
  | (k, bs) :: L, p :: R, h => by
    rw [wl] at h
    rcases List.mem_append.mp h with h | h
    · obtain ⟨b, _, rfl⟩ := List.mem_map.mp h
      exact ⟨p, .head _, rfl⟩
    · obtain ⟨q, hq, e⟩ := wl_mem h
      exact ⟨q, .tail _ hq, e⟩
/-- what a button weighs -/
def vOf (rs : List (Int × Int)) (b : Int) : Int := ((rs.find? fun r => decide (r.1 = b)).map (·.2)).getD 0
theorem vOf_eq : ∀ {rs : List (Int × Int)}, (rs.map (·.1)).Nodup → ∀ r ∈ rs, vOf rs r.1 = r.2
  | x :: l, nd, r, h => by
    have nd' := List.nodup_cons.mp nd
    unfold vOf
    rcases List.mem_cons.mp h with rfl | h
    · rw [List.find?_cons_of_pos (by simp)]
      rfl
    · have hne : ¬ x.1 = r.1 := fun e => nd'.1 (show x.1 ∈ l.map (·.1) by rw [e]; exact List.mem_map_of_mem (f := fun x : Int × Int => x.1) h)
      rw [List.find?_cons_of_neg (by simpa using hne)]
      exact vOf_eq nd'.2 r h
theorem vOf_val {rs : List (Int × Int)} (nd : (rs.map (·.1)).Nodup) {b : Int} (h : b ∈ rs.map (·.1)) : valV (kvsOf rs) (.inl b) = some (.int (vOf rs b)) := by
  obtain ⟨r, hr, rfl⟩ := List.mem_map.mp h
  rw [vOf_eq nd r hr]
  exact valV_mem (kvs_nodup nd) (List.mem_map.mpr ⟨r, hr, rfl⟩)
theorem vOf_perm {rs : List (Int × Int)} (nd : (rs.map (·.1)).Nodup) {ys : List Int} (h : ys.Perm (rs.map (·.1))) : (ys.map fun b => (b, vOf rs b)).Perm rs := by
  have e : (rs.map (·.1)).map (fun b => (b, vOf rs b)) = rs := by
    rw [List.map_map]
    refine (List.map_congr_left fun r hr => ?_).trans (List.map_id rs)
    show (r.1, vOf rs r.1) = r
    rw [vOf_eq nd r hr]
  have := h.map fun b => (b, vOf rs b)
  rw [e] at this
  exact this
def rowD (r : Int × Int) : PyData := .tuple [.int r.1, .int r.2]
theorem dp_rows {K : PySem.W.Frag} {H : Hp} : ∀ {rs : List (Int × Int)} {us : List V}, RsAt H rs us → DpAll K H us (rs.map rowD)
  | [], us, h => by
    have h : us = [] := h
    subst h
    exact .nil
  | r :: l, us, ⟨a, u, e, h1, h2⟩ => by
    subst e
    exact .cons (.tup (sqT h1) (.cons (.int _) (.cons (.int _) .nil))) (dp_rows h2)
def seenD (a b : Int) (rs : List (Int × Int)) : PyData := .list [.tuple [.int a, .int b], .tuple [.tuple (rs.map rowD), .int a]]
theorem seen_sm {a b : Int} {rs : List (Int × Int)} (ha : a.natAbs < 2 ^ 64) (hb : b.natAbs < 2 ^ 64) (hr : ∀ r ∈ rs, r.1.natAbs < 2 ^ 64 ∧ r.2.natAbs < 2 ^ 64) (hl : rs.length ≤ 60) : Sm (seenD a b rs) 60000 := by
  have rows : Sm (.tuple (rs.map rowD)) 9000 := Sm.tup (c := 130) (fun d hd => by
    obtain ⟨r, hr', rfl⟩ := List.mem_map.mp hd
    exact Sm.two (Sm.int (hr r hr').1) (Sm.int (hr r hr').2) (by decide)) (by rw [List.length_map]; omega)
  refine Sm.lst (c := 20000) (fun d hd => ?_) (by show 2 * 20001 ≤ 60000; decide)
  rcases List.mem_cons.mp hd with rfl | hd
  · exact (Sm.two (n := 130) (Sm.int ha) (Sm.int hb) (by decide)).mono (by decide)
  · rw [List.mem_singleton.mp hd]
    exact Sm.two (c := 9000) rows ((Sm.int ha).mono (by decide)) (by decide)
theorem seen_depth (a b : Int) (rs : List (Int × Int)) : (seenD a b rs).depth ≤ 60 := by
  have h : PyData.depthAll (rs.map rowD) ≤ 1 := depthAll_le fun d hd => by
    obtain ⟨r, _, rfl⟩ := List.mem_map.mp hd
    simp [rowD, PyData.depth, PyData.depthAll]
  simp only [seenD, PyData.depth, PyData.depthAll]
  omega
section
variable {P : Program} {w : World} {K : PySem.W.Frag} {mg : Str → Option Value} {base : Heap}
set_option maxHeartbeats 8000000 in
theorem ok_istold (B : Bi mg) (D : Df K mg "_law_is_told" (tp 63) ["_law_tree", "_law_is_named"]) (cW : Cal P w K mg base 17 "_law_weighed" (sp_weighed 16)) (cRd : Cal P w K mg base 34 "_law_reduced" (sp_reduced 16)) (cP : CalK P w K mg base 26 "pair" "tree" sp_pair) (cS : CalK P w K mg base 26 "scale_of" "tree" sp_scale) :
    CalG P w K mg base 35 "_law_is_told" sp_istold := by
  refine D.calG sc_istold (fun vs H Q E h => ?_) (fun f cdv A outer s H vs Q hg hr h => ?_)
  · obtain ⟨v, t, b, rfl, _⟩ := h
    rfl
  have nd := sc_istold.nd
  have hu := hr.units
  have hu1 : (cxOf CX0 P w K mg base iN "_law_is_told" (defScope (tp 63)) f cdv A outer s H E0).nox.A.units + 1 < cLine := Nat.lt_of_le_of_lt (Nat.add_le_add_left (by decide) _) hu
  have hgX : NoG (cxOf CX0 P w K mg base iN "_law_is_told" (defScope (tp 63)) f cdv A outer s H E0).nox.A := hg
  obtain ⟨v, t, b, rfl, ht, hnd, hsm, q⟩ := h
  obtain ⟨L, hL, hok⟩ := lvs_of (red_Red ht.nst)
  obtain ⟨_, hfew, hperm⟩ := ht.ok hL
  obtain ⟨tr, hRest, rest⟩ : ∃ tr, PSs (cxOf CX0 P w K mg base iN "_law_is_told" (defScope (tp 63)) f cdv A outer s H E0).nox ((defBody (tp 63)).drop 3) tr ∧
      ∀ (p : Pw) (R : List Pw) (rs rs0 : List (Int × Int)) (G Rw Z T1 T2 S : Addr) (us1 us2 : List V) (o7 : Option V) (H' : Hp), pw L = p :: R → Rows L rs → rs0.Perm (wls L) → Same H H' → H' G = some (.dK (kvsOf rs0)) → H' Rw = some (.tup us1) → RsAt H' rs us1 → H' Z = some (.lst [.ref T1, .ref T2]) →
        H' T1 = some (.tup [.int p.a, .int p.b]) → H' T2 = some (.tup [.ref S, .int p.a]) → H' S = some (.tup us2) → RsAt H' rs us2 →
        tr { nx := fun _ H' => Q .non H', rt := Q } [some v, some (.bl b), some (.int p.a), some (.int p.b), some (.ref G), some (.ref Rw), some (.ref Z), o7] H' := by
    refine ⟨_, pss_cons (ps_if (pt_cmpR op_ne (pe_op op_add (pe_sumVals rfl (by rfl) B.sum (pv 4)) pe_int) (pe_callB (cr_sumT rfl) (by rfl) B.sum PyProof.Rows.boot_sum (pa_cons (pe_ix ix_list (pv 6) pe_int (fun _ _ => rfl)) pa_nil)) (nomark _)) (pss_one (ps_ret pe_bl)) pss_nil)
      (pss_one (ps_ret (pe_cmpR op_eq (p_reprV (by rfl) B.repr hgX hu (pv 6)) (p_reprV (by rfl) B.repr hgX hu (pe_lst (pa_cons (pe_tup (pa_cons (pv 2) (pa_cons (pv 3) pa_nil))) (pa_cons (pe_tup (pa_cons (pv 5) (pa_cons (pv 2) pa_nil))) pa_nil)))) (nomark _)))), ?_⟩
    intro p R rs rs0 G Rw Z T1 T2 S us1 us2 o7 H' hpw hrows hp0 e1 hG hRw hat1 hZ hT1 hT2 hS hat2
    have T := tells hok hpw
    have hmemp : p ∈ pw L := by rw [hpw]; exact .head _
    have hb1 := pw_bound hok p hmemp
    have h2p : (2 : Int) ^ (L.flatMap (·.2)).length ≤ 2 ^ 60 := by
      have : (2 : Nat) ^ (L.flatMap (·.2)).length ≤ 2 ^ 60 := Nat.pow_le_pow_right (by decide) hfew
      have := Int.ofNat_le.mpr this
      rw [Int.natCast_pow, Int.natCast_pow] at this
      exact this
    have h60 : (2 : Int) ^ 60 = 1152921504606846976 := by decide
    have h64 : (2 : Nat) ^ 64 = 18446744073709551616 := by decide
    have hsum : tot rs0 = tot (wls L) := tot_perm hp0
    refine ⟨.ref G, rfl, G, kvsOf rs0, rs0.map (·.2), rfl, hG, by unfold kvsOf; rw [List.map_map, List.map_map]; rfl, _, _, rfl, rfl, .ref Z, rfl, Z, _, 0, .ref T1, rfl, rfl, sqL hZ, atI_nat (j := 0) rfl, T1, [p.a, p.b], rfl, sqT hT1, rfl, _, rfl, ?_⟩
    have hv : V.int ((rs0.map (·.2)).sum + 1) = V.int ([p.a, p.b].sum) := by
      have e : (rs0.map (·.2)).sum = tot rs0 := rfl
      have e2 := T.sum
      rw [e, hsum, e2]
      simp
    rw [decide_eq_true hv]
    have hsmall : ∀ r ∈ rs, r.1.natAbs < 2 ^ 64 ∧ r.2.natAbs < 2 ^ 64 := fun r hr => by
      have m1 := hrows.perm.mem_iff.mp hr
      obtain ⟨q', hq', e⟩ := wl_mem (L := L) (R := pw L) m1
      have b1 := (pw_bound hok q' hq').2
      have b2 := (pw_pos hok q' hq').2.2
      have m2 : r.1 ∈ L.flatMap (·.2) := by
        rw [← wls_fst]
        exact List.mem_map_of_mem m1
      have m3 := hsm r.1 (hperm.mem_iff.mp m2)
      rw [e, h64]
      omega
    have hrl : rs.length ≤ 60 := by
      have := hrows.keys.length_eq
      rw [List.length_map] at this
      omega
    have a1 := T.a
    have a2 := T.b
    have sm := seen_sm (a := p.a) (b := p.b) (rs := rs) (by rw [h64]; omega) (by rw [h64]; omega) hsmall hrl
    refine iteF ⟨.ref Z, rfl, .ref Z, seenD p.a p.b rs, 60000, rfl, .lst (sqL hZ) (.cons (.tup (sqT hT1) (.cons (.int _) (.cons (.int _) .nil))) (.cons (.tup (sqT hT2) (.cons (.tup (sqT hS) (dp_rows hat2)) (.cons (.int _) .nil))) .nil)), sm, by decide, seen_depth _ _ _, .inl ⟨_, rfl⟩, ?_⟩
    refine ⟨.int p.a, rfl, .int p.b, rfl, (by show 2 ≤ sizeLine; decide), fun T3 hT3 => ?_⟩
    have s1 := same_new hT3 (.tup [.int p.a, .int p.b])
    refine ⟨.ref Rw, rfl, .int p.a, rfl, (by show 2 ≤ sizeLine; decide), fun T4 hT4 => ⟨(by show 2 ≤ sizeLine; decide), fun Z2 hZ2 => ?_⟩⟩
    have s2 := same_new hT4 (.tup [.ref Rw, .int p.a])
    have s3 := same_new hZ2 (.lst [.ref T3, .ref T4])
    have s123 := s1.trans (s2.trans s3)
    refine ⟨.ref Z2, seenD p.a p.b rs, 60000, rfl, .lst (sqL upd_same) (.cons (.tup (sqT (s3 _ _ (s2 _ _ upd_same))) (.cons (.int _) (.cons (.int _) .nil))) (.cons (.tup (sqT (s3 _ _ upd_same)) (.cons (.tup (sqT (s123 _ _ hRw)) (dp_rows (hat1.mono (Same.tupK s123)))) (.cons (.int _) .nil))) .nil)), sm, by decide, seen_depth _ _ _, .inl ⟨_, rfl⟩, rfl, ?_⟩
    rw [decide_eq_true rfl]
    exact q _ (e1.trans s123)
  refine ⟨_, pss_cons (ps_asg (pc cW hr (by decide) (pa_cons (pc cRd hr (by decide) (pa_cons (pv 0) pa_nil)) pa_nil)) (pg_tup rfl (pgs_cons (pg_name (i := 2) nd rfl (.inl rfl)) (pgs_cons (pg_name (i := 3) nd rfl (.inl rfl)) (pgs_cons (pg_name (i := 4) nd rfl (.inr rfl)) pgs_nil)))))
    (pss_cons (ps_set (i := 5) nd rfl (.inl rfl) (pe_callTy call_tuple_of (by rfl) B.tuple (by decide +kernel) (pa_cons
        (pe_lc (own := [("_law_button", 7)]) (g := gName 7) (tt := tYes) rfl nd (pi_list (pe_callB (call_sortedDI rfl) (by rfl) B.sorted (by decide +kernel) (pa_cons (pv 4) pa_nil))) (blkOk_by (N := iN) (sc := defScope (tp 63)) (by decide +kernel))
          (fun _ _ _ _ _ => pg_name (i := 7) nd rfl (Or.inl rfl)) (fun _ _ _ _ _ => pts_nil) (fun _ _ _ _ _ => pe_tup (pa_cons (pv 7) (pa_cons (pe_dget hu1 (pv 4) (pv 7) (fun _ _ => rfl)) pa_nil)))) pa_nil)))
    (pss_cons (ps_set (i := 6) nd rfl (.inl rfl) (pe_ifExp (pt_val (pv 1)) (pe_lst (pa_cons (pcK cP hr (by decide) (pv 0)) (pa_cons (pcK cS hr (by decide) (pv 0)) pa_nil)))
        (pe_lst (pa_cons (pc cP.cal hr (by decide) (pa_cons (pv 0) pa_nil)) (pa_cons (pc cS.cal hr (by decide) (pa_cons (pv 0) pa_nil)) pa_nil)))))
    hRest)), ?_⟩
  have hR := red_Red ht.nst
  have hbr : (btns (red t)).length ≤ 60 := by rw [(red_btns t).length_eq]; exact ht.few
  have hdr : dep (red t) < 16 := Nat.lt_of_le_of_lt (red_dep t) ht.dp
  have hndL : (L.flatMap (·.2)).Nodup := hperm.nodup_iff.mpr hnd
  refine ⟨v, rfl, v, t, rfl, ht.at', ht.nst, ht.few, ht.dp, by decide, fun x H1 e1 hx => ⟨x, red t, L, rfl, hx, hR, hL, hok, hndL, hfew, hbr, hdr, by decide, fun T G p R rs0 H2 hpw e2 hp0 hT hG hGn => ?_⟩⟩
  refine ⟨T, _, rfl, sqT hT, rfl, _, _, rfl, _, _, rfl, _, _, rfl, rfl, ?_⟩
  have e12 := e1.trans e2
  have hk0 : (rs0.map (·.1)).Perm (L.flatMap (·.2)) := by
    rw [← wls_fst]
    exact hp0.map _
  have hnd0 : (rs0.map (·.1)).Nodup := hk0.nodup_iff.mpr hndL
  have hl0 : rs0.length ≤ 60 := by
    have := hk0.length_eq
    rw [List.length_map] at this
    omega
  refine ⟨.ref G, rfl, G, kvsOf rs0, rs0.map (·.1), rfl, .inl hG, kvsOf_keys rs0, by rw [List.length_map]; omega, fun ys Y hys hsrt hY => ⟨Y, rfl, ⟨_, sqL upd_same⟩, fun D hD => ?_⟩⟩
  have s1 := same_new hY (.lst (ys.map V.int))
  have hYl := upd_same (H := H2) (a := Y) (o := .lst (ys.map V.int))
  have hG1 := s1 _ _ hG
  revert s1 hYl hG1 hD
  generalize upd H2 Y (.lst (ys.map V.int)) = H3
  intro hD s1 hYl hG1
  have hylen : ys.length ≤ 60 := by
    rw [hys.length_eq, List.length_map]
    exact hl0
  refine lc_list (xs := ys.map V.int) (fun i H' => ∃ zs, H' D = some (.lst zs) ∧ Same H3 H' ∧ RsAt H' ((ys.take i).map fun b => (b, vOf rs0 b)) zs) ⟨[], upd_same, same_new hD _, rfl⟩ (fun i H' _ hp => ?_) (fun i z H' hz hp => ?_) (fun H' hp => ?_)
  · obtain ⟨zs, d1, d2, d3⟩ := hp
    exact sqL (d2 _ _ hYl)
  · obtain ⟨zs, d1, d2, d3⟩ := hp
    rw [List.getElem?_map] at hz
    obtain ⟨b', hb, rfl⟩ := Option.map_eq_some_iff.mp hz
    have hi : i < ys.length := (List.getElem?_eq_some_iff.mp hb).1
    have hb' : ys[i] = b' := (List.getElem?_eq_some_iff.mp hb).2
    have hzl := d3.len
    rw [List.length_map, List.length_take] at hzl
    have g := DGet.k (k := .inl b') (d2 _ _ hG1)
    rw [vOf_val hnd0 (hys.mem_iff.mp (List.mem_of_getElem? hb))] at g
    refine ⟨rfl, .int b', rfl, .ref G, rfl, .int b', rfl, G, _, rfl, g, (by show 2 ≤ sizeLine; decide), fun T4 hT4 => ?_⟩
    have s4 := same_new hT4 (.tup [.int b', .int (vOf rs0 b')])
    refine ⟨zs, s4 _ _ d1, lt_size (by omega), zs ++ [.ref T4], upd_same, Same.upd' (d2.trans s4) hD, ?_⟩
    have tk := tupK_lst (o := .lst (zs ++ [.ref T4])) (s4 _ _ d1)
    rw [List.take_succ_eq_append_getElem hi, List.map_append, hb']
    exact ((d3.mono (Same.tupK s4)).mono tk).app ⟨T4, [], rfl, tk _ _ upd_same, rfl⟩
  obtain ⟨zs, d1, d2, d3⟩ := hp
  rw [List.length_map, List.take_length] at d3
  -- the rows by the weights are the scale's rows
  have hrowsW : Rows L (ys.map fun b => (b, vOf rs0 b)) := by
    refine ⟨(vOf_perm hnd0 hys).trans hp0, List.pairwise_map.mpr ?_⟩
    have ndy : ys.Nodup := hys.nodup_iff.mpr hnd0
    have := hsrt.and ndy
    exact this.imp fun {x y} h => by
      have h1 : x ≤ y := h.1
      have h2 : x ≠ y := h.2
      show x < y
      omega
  refine ⟨D, zs, rfl, .inl ⟨sqL d1, fun Rw hRw => ?_⟩⟩
  have s5 := same_new hRw (.tup zs)
  have e5 := e12.trans (s1.trans (d2.trans s5))
  have hG5 := s5 _ _ (d2 _ _ hG1)
  have hRw5 := upd_same (H := H') (a := Rw) (o := .tup zs)
  have hat5 := d3.mono (Same.tupK s5)
  revert e5 hG5 hRw5 hat5
  generalize upd H' Rw (.tup zs) = H5
  intro e5 hG5 hRw5 hat5
  clear s5 hRw d1 d2 d3 s1 hYl hG1 hD hY
  have nest5 := ht.mono (Same.tupK e5)
  have both : ∀ (T1 T2 S : Addr) (us2 : List V) (p1 p2 : Pw) (R1 R2 : List Pw) (rs : List (Int × Int)) (H6 H7 : Hp), pw L = p1 :: R1 → Same H5 H6 → H6 T1 = some (.tup [.int p1.a, .int p1.b]) → pw L = p2 :: R2 → Same H6 H7 → Rows L rs → H7 T2 = some (.tup [.ref S, .int p2.a]) → H7 S = some (.tup us2) → RsAt H7 rs us2 →
      ([V.ref T1, V.ref T2] : List V).length ≤ sizeLine ∧ ∀ Z, H7 Z = none → tr { nx := fun _ H' => Q .non H', rt := Q } [some v, some (.bl b), some (.int p.a), some (.int p.b), some (.ref G), some (.ref Rw), some (.ref Z), none] (upd H7 Z (.lst [.ref T1, .ref T2])) := by
    intro T1 T2 S us2 p1 p2 R1 R2 rs H6 H7 w1 e6 hT1 w2 e7 hr2 hT2 hS hat2
    rw [hpw] at w1 w2
    cases w1
    cases w2
    have hrr := hr2.uniq hrowsW
    subst hrr
    refine ⟨(by show 2 ≤ sizeLine; decide), fun Z hZ => ?_⟩
    have s8 := same_new hZ (.lst [.ref T1, .ref T2])
    have e78 := e6.trans (e7.trans s8)
    exact rest p R _ rs0 G Rw Z T1 T2 S zs us2 none _ hpw hrowsW hp0 (e5.trans e78) (e78 _ _ hG5) (e78 _ _ hRw5) (hat5.mono (Same.tupK e78)) upd_same (s8 _ _ (e7 _ _ hT1)) (s8 _ _ hT2) (s8 _ _ hS) (hat2.mono (Same.tupK s8))
  refine ⟨.bl b, rfl, b, rfl, ?_⟩
  cases b with
  | true =>
    refine iteT ⟨v, rfl, v, t, L, rfl, nest5, hL, fun T1 p1 R1 H6 w1 e6 hT1 => ⟨v, rfl, v, t, L, rfl, nest5.mono (Same.tupK e6), hnd, hL, fun T2 S p2 R2 rs us2 H7 w2 e7 hr2 hT2 hS hat2 => ?_⟩⟩
    exact both T1 T2 S us2 p1 p2 R1 R2 rs H6 H7 w1 e6 hT1 w2 e7 hr2 hT2 hS hat2
  | false =>
    refine iteF ⟨v, rfl, v, t, L, rfl, nest5, hL, fun T1 p1 R1 H6 w1 e6 hT1 => ⟨v, rfl, v, t, L, rfl, nest5.mono (Same.tupK e6), hnd, hL, fun T2 S p2 R2 rs us2 H7 w2 e7 hr2 hT2 hS hat2 => ?_⟩⟩
    exact both T1 T2 S us2 p1 p2 R1 R2 rs H6 H7 w1 e6 hT1 w2 e7 hr2 hT2 hS hat2
end
end Ks
set_option maxRecDepth 100000
set_option maxHeartbeats 4000000
namespace Ks
open PySem PySem.Spec PyProof.Rows L2
/-! ### law -/
abbrev gN : List Str := ["_law_script", "_law_deck_here", "_law_turn", "_law_many", "_law_tree", "_law_known"]
theorem sc_law : FnScope gN ["_law_script"] (defScope (tp 66)) := ⟨rfl, rfl, rfl, by decide +kernel, rfl, by decide +kernel, by decide +kernel⟩
def sp_law (K : PySem.W.Frag) : Sp := fun vs H Q _ => ∃ (a : Addr) (ns : List Int), vs = [.ref a] ∧ SqL K H a (ns.map V.int) ∧ ∀ H2, Q (.bl true) H2
def bodyOfFor : Stmt → List Stmt
  | .For _ _ b _ _ => b
  | _ => []
theorem TrAt.any {H : Hp} {t : Tr} {v : V} (h : TrAt H t v) : (∃ a, v = V.ref a) ∨ ∃ i, v = V.int i := by
  cases t with
  | leaf b => exact .inr ⟨b, trAt_leaf.mp h⟩
  | node k ps =>
    obtain ⟨a, _, _, e, _⟩ := trAt_node.mp h
    exact .inl ⟨a, e⟩
section
variable {P : Program} {w : World} {K : PySem.W.Frag} {mg : Str → Option Value} {base : Heap}
set_option maxHeartbeats 8000000 in
theorem ok_law {f : Addr} {fd : FuncData} (B : Bi mg) (F0 : Fun K "law" "law" (tp 66) f fd) (cK : Cal P w K mg base 1 "_law_deck" (sp_deck K)) (cD : Cal P w K mg base 1 "_law_draw" sp_draw) (cB : Cal P w K mg base 3 "_law_buttons" sp_buttons) (cN : Cal P w K mg base 3 "_law_nest" sp_nest)
    (cI : CalG P w K mg base 35 "_law_is_told" sp_istold) (cL : Cal P w K mg base 27 "_law_is_lots" sp_lots) (cE : Cal P w K mg base 27 "_law_is_least" sp_least) : GOk P w K mg base 36 f fd ["_law_script"] (sp_law K) := by
  refine gok_of F0 sc_law (fun vs H Q E h => ?_) (fun cdv A outer s H vs Q hg hr h => ?_)
  · obtain ⟨a, ns, rfl, _⟩ := h
    rfl
  have nd := sc_law.nd
  have hu := hr.units
  have hgX : NoG (cxOf CX0 P w K mg base gN "law" (defScope (tp 66)) f cdv A outer s H E0).nox.A := hg
  obtain ⟨a, ns, rfl, ha, q⟩ := h
  obtain ⟨tr, hRest, rest⟩ : ∃ tr, PSs (cxOf CX0 P w K mg base gN "law" (defScope (tp 66)) f cdv A outer s H E0).nox ((bodyOfFor ((defBody (tp 66)).getD 1 (.Pass ⟨0, 0, 0, 0⟩))).drop 2) tr ∧
      ∀ (D : Ends) (d l : Addr) (m : Nat) (tn : Int) (o4 o5 : Option V) (H' : Hp), Deck H' d l → 1 ≤ m → m ≤ 24 → (∀ o4 o5 H2, Deck H2 d l → D.nx [some (.ref a), some (.ref d), some (.int tn), some (.int (m : Int)), o4, o5] H2) →
        tr D [some (.ref a), some (.ref d), some (.int tn), some (.int (m : Int)), o4, o5] H' := by
    refine ⟨_, pss_cons (ps_set (i := 4) nd rfl (.inl rfl) (pc cN hr (by decide) (pa_cons (pv 1) (pa_cons (pc cB hr (by decide) (pa_cons (pv 1) (pa_cons (pv 3) pa_nil))) pa_nil))))
      (pss_cons (ps_set (i := 5) nd rfl (.inl rfl) (p_reprV (by rfl) B.repr hgX hu (pv 4)))
      (pss_cons (ps_if (PW.pt (pw_or (pt_not (pt_val (pcG cI hgX hr (by decide) (pa_cons (pv 4) (pa_cons (pe_cmpR op_eq (pe_op op_mod (pv 2) pe_int) pe_int (nomark _)) pa_nil))))) (pw_or1 (pt_cmpR op_ne (p_reprV (by rfl) B.repr hgX hu (pv 4)) (pv 5) (nomark _))))) (pss_one (ps_ret pe_bl)) pss_nil)
      (pss_one (ps_if (PW.pt (pw_and (pt_cmpR op_lt (pv 3) pe_int (nomark _)) (pw_and1 (pt_not (pt_val (pc cL hr (by decide) (pa_cons (pv 4) pa_nil))))))) (pss_one (ps_ret pe_bl)) pss_nil)))), ?_⟩
    intro D d l m tn o4 o5 H' hD hm1 hm2 fin
    refine ⟨.ref d, rfl, .ref d, rfl, .int (m : Int), rfl, d, l, m, rfl, hD, by omega, fun p bs H1 hp hbn hbl hbs k1 d1 hpl => ?_⟩
    refine ⟨d, l, p, bs, rfl, d1, hpl, fun z => by subst z; simp at hbl; omega, by omega, fun v t H2 k2 d2 ht hN hpm hdt => ?_⟩
    have hbt : ∀ b ∈ btns t, 0 ≤ b ∧ b ≤ 1000 := fun b hb => hbs b (hpm.mem_iff.mp hb)
    have hbl' : (btns t).length = m := hpm.length_eq.trans hbl
    have hnd : (btns t).Nodup := hpm.nodup_iff.mpr hbn
    have nest : Nest H2 t v := ⟨ht, hN, by omega, by omega⟩
    have sm := Sm.tree hN hbt (by omega) (by omega)
    have hdep : (treeD t).depth ≤ 60 := by
      have := depth_t t
      omega
    refine ⟨v, rfl, v, treeD t, 70000, rfl, dpT ht, sm, by decide, hdep, ht.any, ?_⟩
    refine ⟨v, rfl, .int tn, rfl, _, _, rfl, rfl, (by show (0 : Int) < 2; decide), rfl, v, t, _, rfl, nest, hnd, hbt, fun H3 e3 => ⟨true, rfl, ?_⟩⟩
    refine iteF ⟨v, rfl, v, treeD t, 70000, rfl, dpT (ht.same e3), sm, by decide, hdep, ht.any, .str (treeD t).shown, rfl, rfl, _, rfl, ?_⟩
    rw [decide_eq_true rfl]
    refine iteF ⟨.int (m : Int), rfl, _, _, rfl, rfl, _, rfl, ?_⟩
    have d3 := d2.same e3
    by_cases h9 : (m : Int) < 9
    · rw [decide_eq_true h9]
      refine iteT ⟨v, rfl, v, t, rfl, nest.mono (Same.tupK e3), hnd, by omega, fun H4 e4 => ⟨true, rfl, iteF (fin _ _ H4 (d3.same e4))⟩⟩
    · rw [decide_eq_false h9]
      exact iteF (iteF (fin _ _ H3 d3))
  refine ⟨_, pss_cons (ps_set (i := 1) nd rfl (.inl rfl) (pc cK hr (by decide) (pa_cons (pv 0) pa_nil)))
    (pss_cons (ps_for PassesOwn.never rfl (pi_range1 (by rfl) B.range (pa_cons pe_int pa_nil)) (pg_name (i := 2) nd rfl (.inl rfl))
      (pss_cons (ps_set (i := 3) nd rfl (.inl rfl) (pe_op op_add pe_int (pc cD hr (by decide) (pa_cons (pv 1) (pa_cons pe_int pa_nil)))))
      (pss_cons (ps_if (PW.pt (pw_and (pt_cmpR op_eq (pv 2) pe_int (nomark _)) (pw_and1 (pt_cmpR op_eq (pc cD hr (by decide) (pa_cons (pv 1) (pa_cons pe_int pa_nil))) pe_int (nomark _)))))
        (pss_one (ps_set (i := 3) nd rfl (.inl rfl) (pe_op op_add pe_int (pc cD hr (by decide) (pa_cons (pv 1) (pa_cons pe_int pa_nil)))))) pss_nil)
      hRest)))
    (pss_one (ps_ret (pe_or (pe_cmpR op_eq (pc cD hr (by decide) (pa_cons (pv 1) (pa_cons pe_int pa_nil))) pe_int (nomark _))
      (pe_one (pc cE hr (by decide) (pa_cons (pc cN hr (by decide) (pa_cons (pv 1) (pa_cons (pc cB hr (by decide) (pa_cons (pv 1) (pa_cons pe_int pa_nil))) pa_nil))) pa_nil))))))), ?_⟩
  refine ⟨.ref a, rfl, a, ns, rfl, ha, fun d l H1 e1 hD hdn hln => ?_⟩
  refine ⟨5, rfl, by decide, by decide, ?_⟩
  refine for_range (lo := 0) (n := (5 : Int).toNat) (fun i σ H' => Deck H' d l ∧ ∃ o2 o3 o4 o5, σ = [some (.ref a), some (.ref d), o2, o3, o4, o5]) ⟨hD, _, _, _, _, rfl⟩ (fun i σ H' hi hp => ?_) (fun σ H' hp => ?_)
  · obtain ⟨hD2, o2, o3, o4, o5, rfl⟩ := hp
    generalize (0 + (i : Int)) = tn
    refine ⟨.ref d, rfl, d, l, 8, rfl, hD2, by decide, by decide, fun r H3 a1 a2 k3 d3 => ⟨_, _, rfl, rfl, ?_⟩⟩
    have go : ∀ (D : Ends) (m : Int) (H4 : Hp), 1 ≤ m → m ≤ 24 → Deck H4 d l → (∀ o4 o5 H2, Deck H2 d l → D.nx [some (.ref a), some (.ref d), some (.int tn), some (.int m), o4, o5] H2) → tr D [some (.ref a), some (.ref d), some (.int tn), some (.int m), o4, o5] H4 := fun D m H4 h1 h2 h3 h4 => by
      obtain ⟨n, rfl⟩ : ∃ n : Nat, m = (n : Int) := ⟨m.toNat, by omega⟩
      exact rest D d l n tn o4 o5 H4 h3 (by omega) (by omega) h4
    refine ⟨.int tn, rfl, rfl, _, rfl, ?_⟩
    rw [ev_int]
    by_cases e3 : tn = 3
    · rw [decide_eq_true e3]
      refine iteT ⟨.ref d, rfl, d, l, 2, rfl, d3, by decide, by decide, fun r2 H4 b1 b2 k4 d4 => ⟨rfl, _, rfl, ?_⟩⟩
      rw [ev_int]
      by_cases e4 : r2 = 0
      · rw [decide_eq_true e4]
        refine iteT ⟨.ref d, rfl, d, l, 16, rfl, d4, by decide, by decide, fun r3 H5 c1 c2 k5 d5 => ⟨_, _, rfl, rfl, ?_⟩⟩
        exact go _ (9 + r3) H5 (by omega) (by omega) d5 fun o4 o5 H2 h => ⟨h, _, _, _, _, rfl⟩
      · rw [decide_eq_false e4]
        exact iteF (go _ (1 + r) H4 (by omega) (by omega) d4 fun o4 o5 H2 h => ⟨h, _, _, _, _, rfl⟩)
    · rw [decide_eq_false e3]
      exact iteF (go _ (1 + r) H3 (by omega) (by omega) d3 fun o4 o5 H2 h => ⟨h, _, _, _, _, rfl⟩)
  · obtain ⟨hD2, o2, o3, o4, o5, rfl⟩ := hp
    refine ⟨.ref d, rfl, d, l, 2, rfl, hD2, by decide, by decide, fun r H3 a1 a2 k3 d3 => ⟨rfl, _, rfl, ?_⟩⟩
    rw [ev_int]
    by_cases e : r = 0
    · rw [decide_eq_true e]
      exact iteT (q H3)
    · rw [decide_eq_false e]
      refine iteF ⟨.ref d, rfl, .ref d, rfl, d, l, 4, rfl, d3, by decide, fun p bs H4 hp hbn hbl hbs k4 d4 hpl => ?_⟩
      refine ⟨d, l, p, bs, rfl, d4, hpl, fun z => by subst z; simp at hbl, by omega, fun v t H5 k5 d5 ht hN hpm hdt => ?_⟩
      have hbl' : (btns t).length = 4 := hpm.length_eq.trans hbl
      exact ⟨v, t, rfl, ⟨ht, hN, by omega, by omega⟩, hpm.nodup_iff.mpr hbn, hbl', fun H6 _ => q H6⟩
end
end Ks
set_option maxRecDepth 100000
set_option maxHeartbeats 4000000
namespace Ks
open PySem PySem.Spec PyProof.Rows L2
/-! ### the call of law from outside, where no repr is under way -/
section
variable {P : Program} {w : World} {K : PySem.W.Frag} {mg mb : Str → Option Value} {k : Nat} {fa a : Addr} {fd : FuncData} {x : Str} {sp : Sp} {s : Shared} {vs : List Value} {ns : List Int}
abbrev LawEnd (s : Shared) : Result → Shared → Prop := fun r s' => r = .ok (.ret (.bool true)) ∧ OldK s.heap s'.heap ∧ s'.os = s.os ∧ AllBare s'.gens
/-- H tracks the script or nothing at all -/
theorem top_at {H : Hp} (KX : K.In s.heap) (hns : s.heap.Ns mainGlobals mg) (hb : s.heap.Ns builtinsNs mb) (hbb : ∀ x : Str, x ≠ "__name__" → mb x = bootBuiltins x) (hlim : s.heap.NoLimit) (hg : s.gens = #[])
    (ha : s.heap.get? a = some { cls := .type "list", data := .seq vs.toArray }) (hr : Room k callerA) (F : ∀ base : Heap, K.In base → base.Ns mainGlobals mg → GOk P w K mg base k fa fd [x] sp) (hbind : ∀ (s : Shared) (u : Value), BindsTo s fd ⟨[u], []⟩ [(x, u)])
    (hsp : sp [.ref a] H (fun v _ => v = .bl true) E0) (hok : HOk P w H s.heap) (only : ∀ b u, H b = some u → b = a ∧ ∃ o ys, u = .frz o (.lst ys)) (out : ∀ u, H a = some u → K.lookup a = none) :
    codeAny (model P w) callerA (.call (.ref fa) ⟨[.ref a], []⟩) (LawEnd s) s := by
  have untracked : ∀ {b : Addr}, (b = a → H a = none) → H b = none := fun {b} h => by
    rcases e : H b with _ | u
    · rfl
    · obtain ⟨z, _⟩ := only b u e
      subst z
      exact (h rfl).symm.trans e ▸ rfl
  have isList : ∀ {b : Addr} {o : Obj} {es : Array DictEntry} {ep : Nat}, s.heap.get? b = some o → o.data = .dict es ep → H b = none := fun {b o es ep} e d => untracked fun z => by
    subst z
    rw [ha] at e
    cases e
    cases d
  have kb : K.In (hidT s.heap H) := fun b o e => hidT_get (KX b o e) (untracked fun z => by
    subst z
    rcases q : H b with _ | u
    · rfl
    · rw [out u q] at e
      cases e)
  have space : ∀ {b : Addr} {m : Str → Option Value}, s.heap.Ns b m → (hidT s.heap H).Ns b m := fun h => by
    obtain ⟨o, es, ep, e, d, r⟩ := h
    exact ⟨o, es, ep, hidT_get e (isList e d), d, r⟩
  obtain ⟨mc, c1, c2⟩ := hlim
  have e0 : Env0 P w K mg (hidT s.heap H) callerA [] s H :=
    { frames := rfl, mod := ⟨kb, space hns, ⟨mb, space hb, hbb⟩, mc, space c1, c2⟩, bs := fun _ _ e => of_hidT e, bsz := Nat.le_of_eq (hidT_size _ _), funs := trivial, frf := fun b h => (nomatch h), hok := hok, bare := .of_eq hg }
  have goes := (F _ kb (space hns)).run callerA [] s H ⟨[.ref a], []⟩ [.ref a] [.ref a] _ rfl hr e0 (hbind s (.ref a)) (.cons rfl .nil) hsp
  refine codeAny_mono goes fun res s' he => ?_
  match res, he with
  | .error _, he => exact he.elim
  | .ok (.ret u), he =>
    obtain ⟨v, H', os, bare, un, hok', rv, (rfl : v = .bl true)⟩ := he
    obtain rfl : u = Value.bool true := rv
    refine ⟨rfl, .of_keep fun b o e => ?_, os, bare⟩
    rcases q : H b with _ | t
    · exact un.keep b o e q (fun z => nomatch z) (fun z => nomatch z)
    · obtain ⟨_, ob, ys, rfl⟩ := only b t q
      have h1 := (hok b _ q).1
      have h2 := (hok' b _ (un.frzs b ob _ q)).1
      rw [e] at h1
      cases h1
      exact h2
theorem top_call (KX : K.In s.heap) (hns : s.heap.Ns mainGlobals mg) (hb : s.heap.Ns builtinsNs mb) (hbb : ∀ x : Str, x ≠ "__name__" → mb x = bootBuiltins x) (hlim : s.heap.NoLimit) (hg : s.gens = #[])
    (ha : s.heap.get? a = some { cls := .type "list", data := .seq vs.toArray }) (hi : IntsAre vs ns) (hl : ns.length ≤ sizeLine) (hr : Room k callerA) (F : ∀ base : Heap, K.In base → base.Ns mainGlobals mg → GOk P w K mg base k fa fd [x] sp) (hbind : ∀ (s : Shared) (u : Value), BindsTo s fd ⟨[u], []⟩ [(x, u)])
    (hsp : ∀ H : Hp, SqL K H a (ns.map V.int) → sp [.ref a] H (fun v _ => v = .bl true) E0) : codeAny (model P w) callerA (.call (.ref fa) ⟨[.ref a], []⟩) (LawEnd s) s := by
  have rv := vals_ints hi
  rcases hk : K.lookup a with _ | o
  · have one : ∀ b u, (if b = a then some (HO.frz { cls := .type "list", data := .seq vs.toArray } (.lst (ns.map V.int))) else none) = some u → b = a ∧ u = .frz { cls := .type "list", data := .seq vs.toArray } (.lst (ns.map V.int)) := fun b u h => by
      split at h
      · rename_i e
        exact ⟨e, (Option.some.inj h).symm⟩
      · cases h
    refine top_at (H := fun b => if b = a then some (.frz { cls := .type "list", data := .seq vs.toArray } (.lst (ns.map V.int))) else none) KX hns hb hbb hlim hg ha hr F hbind (hsp _ (.inl (.inr ⟨_, if_pos rfl⟩))) (fun b u h => ?_) (fun b u h => ?_) fun _ _ => hk
    · obtain ⟨e1, e2⟩ := one b u h
      subst e1 e2
      exact ⟨ha, by rw [List.length_map]; exact hl, vs, _, rv, ha⟩
    · obtain ⟨e1, e2⟩ := one b u h
      exact ⟨e1, _, _, e2⟩
  · have e := (ha.symm.trans (KX a o hk))
    cases e
    refine top_at (H := fun _ => none) KX hns hb hbb hlim hg ha hr F hbind (hsp _ (.inr ⟨_, vs.toArray, _, hk, rfl, rfl, rfl, by rw [List.size_toArray, hi.length]; exact hl, by simpa using rv⟩)) (fun b u h => nomatch h) (fun b u h => nomatch h) fun u h => nomatch h
end
theorem walk_top {l : PySem.W.OpenLaw} {n k : Nat} {q : Program} {loose : List Str} {XP : (Str → Option Value) → Heap → Prop} {YP : World → Heap → Prop} {d : DefRec} {K : Params → PySem.W.Frag} {sp : World → Sp} {x : Str}
    (hn : l.most = some n) (hn2 : n ≤ sizeLine) (hdf : d.params.defaults = []) (hr : Room k callerA) (hY : ∀ (w : World) (h : Heap), YP w h → (K w.params).In h)
    (F : ∀ (w : World) (mg : Str → Option Value) (fa : Addr) (h : Heap), (K w.params).In h → h.Ns mainGlobals mg → mg d.name = some (.ref fa) →
      ∃ fd : FuncData, (∀ (s : Shared) (u : Value), BindsTo s fd ⟨[u], []⟩ [(x, u)]) ∧ ∀ base : Heap, (K w.params).In base → base.Ns mainGlobals mg → GOk l.prog w (K w.params) mg base k fa fd [x] (sp w))
    (hsp : ∀ (w : World) (H : Hp) (a : Addr) (ns : List Int), SqL (K w.params) H a (ns.map V.int) → sp w [.ref a] H (fun v _ => v = .bl true) E0) : PySem.W.WalkO q loose XP YP l.row.toRowW d [] (fun f vs => PySem.call f vs) := by
  refine Att.attach_call hn hdf ?_
  intro w s₀ s₁ mg mb fa o pm cd doc a vs ns G Y _ _ _ hmg hobj hints hlen hg
  obtain ⟨fd, hb, hF⟩ := F w mg fa _ (hY w _ Y) G.T.g hmg
  exact top_call (hY w _ Y) G.T.g G.T.b G.T.builtins G.T.nolimit hg hobj hints (Nat.le_trans hlen hn2) hr hF hb fun H hS => hsp w H a ns hS
end Ks
set_option maxRecDepth 100000
set_option maxHeartbeats 4000000
namespace Ks
open PySem PySem.Spec PyProof.Rows L2
/-! ### all together -/
theorem df_mk {K : PySem.W.Frag} {h : Heap} {mg : Str → Option Value} {x : Str} {st : Stmt} {ps : List Str} {f : Addr} {od an : Option Addr} {sl : Array (Option Value)} {oc kV dc pm cd ct : Value} (X : K.In h) (G : h.Ns mainGlobals mg)
    (bn : ∀ (kV doc pm : Value) (an : Option Addr) (cdv ct : Value) (us : List Value), us.length = ps.length → bindArgs (PySem.W.fnOf x x (defArgs st) (defBody st) (defScope st) .none kV doc pm an cdv ct) ⟨us, []⟩ = pure (ps.zip us))
    (a : PySem.W.nsIn K mainGlobals x = some (some (.ref f))) (l : K.lookup f = some ⟨oc, od, .func (PySem.W.fnOf x x (defArgs st) (defBody st) (defScope st) .none kV dc pm an cd ct), sl⟩) (c : PySem.W.codeIn K cd x = true) (k : PySem.W.keepIn K (.ref f) = true) : Df K mg x st ps :=
  ⟨f, _, fun_mk l c k, PySem.W.mg_of X G a, (fun_mk l c k).binds bn⟩
theorem bn7 : ∀ (kV doc pm : Value) (an : Option Addr) (cdv ct : Value) (us : List Value), us.length = (["tree"] : List Str).length → bindArgs (PySem.W.fnOf "is_trip" "is_trip" (defArgs (tp 7)) (defBody (tp 7)) (defScope (tp 7)) .none kV doc pm an cdv ct) ⟨us, []⟩ = pure ((["tree"] : List Str).zip us) := fun _ _ _ _ _ _ us hl => match us, hl with | [_], _ => rfl
theorem bn12 : ∀ (kV doc pm : Value) (an : Option Addr) (cdv ct : Value) (us : List Value), us.length = (["tree"] : List Str).length → bindArgs (PySem.W.fnOf "least_button" "least_button" (defArgs (tp 12)) (defBody (tp 12)) (defScope (tp 12)) .none kV doc pm an cdv ct) ⟨us, []⟩ = pure ((["tree"] : List Str).zip us) := fun _ _ _ _ _ _ us hl => match us, hl with | [_], _ => rfl
theorem bn13 : ∀ (kV doc pm : Value) (an : Option Addr) (cdv ct : Value) (us : List Value), us.length = (["part", "bound", "many"] : List Str).length → bindArgs (PySem.W.fnOf "is_like_trip" "is_like_trip" (defArgs (tp 13)) (defBody (tp 13)) (defScope (tp 13)) .none kV doc pm an cdv ct) ⟨us, []⟩ = pure ((["part", "bound", "many"] : List Str).zip us) := fun _ _ _ _ _ _ us hl => match us, hl with | [_, _, _], _ => rfl
theorem bn14 : ∀ (kV doc pm : Value) (an : Option Addr) (cdv ct : Value) (us : List Value), us.length = (["bound", "parts"] : List Str).length → bindArgs (PySem.W.fnOf "told_trip" "told_trip" (defArgs (tp 14)) (defBody (tp 14)) (defScope (tp 14)) .none kV doc pm an cdv ct) ⟨us, []⟩ = pure ((["bound", "parts"] : List Str).zip us) := fun _ _ _ _ _ _ us hl => match us, hl with | [_, _], _ => rfl
theorem bn15 : ∀ (kV doc pm : Value) (an : Option Addr) (cdv ct : Value) (us : List Value), us.length = (["tree"] : List Str).length → bindArgs (PySem.W.fnOf "told" "told" (defArgs (tp 15)) (defBody (tp 15)) (defScope (tp 15)) .none kV doc pm an cdv ct) ⟨us, []⟩ = pure ((["tree"] : List Str).zip us) := fun _ _ _ _ _ _ us hl => match us, hl with | [_], _ => rfl
theorem bn17 : ∀ (kV doc pm : Value) (an : Option Addr) (cdv ct : Value) (us : List Value), us.length = (["tree"] : List Str).length → bindArgs (PySem.W.fnOf "own_buttons" "own_buttons" (defArgs (tp 17)) (defBody (tp 17)) (defScope (tp 17)) .none kV doc pm an cdv ct) ⟨us, []⟩ = pure ((["tree"] : List Str).zip us) := fun _ _ _ _ _ _ us hl => match us, hl with | [_], _ => rfl
theorem bn18 : ∀ (kV doc pm : Value) (an : Option Addr) (cdv ct : Value) (us : List Value), us.length = (["tree"] : List Str).length → bindArgs (PySem.W.fnOf "own_trips" "own_trips" (defArgs (tp 18)) (defBody (tp 18)) (defScope (tp 18)) .none kV doc pm an cdv ct) ⟨us, []⟩ = pure ((["tree"] : List Str).zip us) := fun _ _ _ _ _ _ us hl => match us, hl with | [_], _ => rfl
theorem bn19 : ∀ (kV doc pm : Value) (an : Option Addr) (cdv ct : Value) (us : List Value), us.length = (["tree", "way"] : List Str).length → bindArgs (PySem.W.fnOf "fork_from" "fork_from" (defArgs (tp 19)) (defBody (tp 19)) (defScope (tp 19)) .none kV doc pm an cdv ct) ⟨us, []⟩ = pure ((["tree", "way"] : List Str).zip us) := fun _ _ _ _ _ _ us hl => match us, hl with | [_, _], _ => rfl
theorem bn20 : ∀ (kV doc pm : Value) (an : Option Addr) (cdv ct : Value) (us : List Value), us.length = (["tree"] : List Str).length → bindArgs (PySem.W.fnOf "level_rows" "level_rows" (defArgs (tp 20)) (defBody (tp 20)) (defScope (tp 20)) .none kV doc pm an cdv ct) ⟨us, []⟩ = pure ((["tree"] : List Str).zip us) := fun _ _ _ _ _ _ us hl => match us, hl with | [_], _ => rfl
theorem bn21 : ∀ (kV doc pm : Value) (an : Option Addr) (cdv ct : Value) (us : List Value), us.length = (["k", "many", "a", "b"] : List Str).length → bindArgs (PySem.W.fnOf "weight_over" "weight_over" (defArgs (tp 21)) (defBody (tp 21)) (defScope (tp 21)) .none kV doc pm an cdv ct) ⟨us, []⟩ = pure ((["k", "many", "a", "b"] : List Str).zip us) := fun _ _ _ _ _ _ us hl => match us, hl with | [_, _, _, _], _ => rfl
theorem bn22 : ∀ (kV doc pm : Value) (an : Option Addr) (cdv ct : Value) (us : List Value), us.length = (["rows"] : List Str).length → bindArgs (PySem.W.fnOf "pairs_and_weights" "pairs_and_weights" (defArgs (tp 22)) (defBody (tp 22)) (defScope (tp 22)) .none kV doc pm an cdv ct) ⟨us, []⟩ = pure ((["rows"] : List Str).zip us) := fun _ _ _ _ _ _ us hl => match us, hl with | [_], _ => rfl
theorem bn41 : ∀ (kV doc pm : Value) (an : Option Addr) (cdv ct : Value) (us : List Value), us.length = (["tree"] : List Str).length → bindArgs (PySem.W.fnOf "swap_of" "swap_of" (defArgs (tp 41)) (defBody (tp 41)) (defScope (tp 41)) .none kV doc pm an cdv ct) ⟨us, []⟩ = pure ((["tree"] : List Str).zip us) := fun _ _ _ _ _ _ us hl => match us, hl with | [_], _ => rfl
theorem bn43 : ∀ (kV doc pm : Value) (an : Option Addr) (cdv ct : Value) (us : List Value), us.length = (["tree"] : List Str).length → bindArgs (PySem.W.fnOf "need_nest" "need_nest" (defArgs (tp 43)) (defBody (tp 43)) (defScope (tp 43)) .none kV doc pm an cdv ct) ⟨us, []⟩ = pure ((["tree"] : List Str).zip us) := fun _ _ _ _ _ _ us hl => match us, hl with | [_], _ => rfl
theorem bn44 : ∀ (kV doc pm : Value) (an : Option Addr) (cdv ct : Value) (us : List Value), us.length = (["tree"] : List Str).length → bindArgs (PySem.W.fnOf "levels" "levels" (defArgs (tp 44)) (defBody (tp 44)) (defScope (tp 44)) .none kV doc pm an cdv ct) ⟨us, []⟩ = pure ((["tree"] : List Str).zip us) := fun _ _ _ _ _ _ us hl => match us, hl with | [_], _ => rfl
theorem bn45 : ∀ (kV doc pm : Value) (an : Option Addr) (cdv ct : Value) (us : List Value), us.length = (["tree"] : List Str).length → bindArgs (PySem.W.fnOf "pair" "pair" (defArgs (tp 45)) (defBody (tp 45)) (defScope (tp 45)) .none kV doc pm an cdv ct) ⟨us, []⟩ = pure ((["tree"] : List Str).zip us) := fun _ _ _ _ _ _ us hl => match us, hl with | [_], _ => rfl
theorem bn46 : ∀ (kV doc pm : Value) (an : Option Addr) (cdv ct : Value) (us : List Value), us.length = (["tree"] : List Str).length → bindArgs (PySem.W.fnOf "scale_of" "scale_of" (defArgs (tp 46)) (defBody (tp 46)) (defScope (tp 46)) .none kV doc pm an cdv ct) ⟨us, []⟩ = pure ((["tree"] : List Str).zip us) := fun _ _ _ _ _ _ us hl => match us, hl with | [_], _ => rfl
theorem bn48 : ∀ (kV doc pm : Value) (an : Option Addr) (cdv ct : Value) (us : List Value), us.length = (["_law_script"] : List Str).length → bindArgs (PySem.W.fnOf "_law_deck" "_law_deck" (defArgs (tp 48)) (defBody (tp 48)) (defScope (tp 48)) .none kV doc pm an cdv ct) ⟨us, []⟩ = pure ((["_law_script"] : List Str).zip us) := fun _ _ _ _ _ _ us hl => match us, hl with | [_], _ => rfl
theorem bn49 : ∀ (kV doc pm : Value) (an : Option Addr) (cdv ct : Value) (us : List Value), us.length = (["_law_deck_here", "_law_many"] : List Str).length → bindArgs (PySem.W.fnOf "_law_draw" "_law_draw" (defArgs (tp 49)) (defBody (tp 49)) (defScope (tp 49)) .none kV doc pm an cdv ct) ⟨us, []⟩ = pure ((["_law_deck_here", "_law_many"] : List Str).zip us) := fun _ _ _ _ _ _ us hl => match us, hl with | [_, _], _ => rfl
theorem bn50 : ∀ (kV doc pm : Value) (an : Option Addr) (cdv ct : Value) (us : List Value), us.length = (["_law_deck_here", "_law_items"] : List Str).length → bindArgs (PySem.W.fnOf "_law_pick" "_law_pick" (defArgs (tp 50)) (defBody (tp 50)) (defScope (tp 50)) .none kV doc pm an cdv ct) ⟨us, []⟩ = pure ((["_law_deck_here", "_law_items"] : List Str).zip us) := fun _ _ _ _ _ _ us hl => match us, hl with | [_, _], _ => rfl
theorem bn51 : ∀ (kV doc pm : Value) (an : Option Addr) (cdv ct : Value) (us : List Value), us.length = (["_law_deck_here", "_law_items"] : List Str).length → bindArgs (PySem.W.fnOf "_law_mixed" "_law_mixed" (defArgs (tp 51)) (defBody (tp 51)) (defScope (tp 51)) .none kV doc pm an cdv ct) ⟨us, []⟩ = pure ((["_law_deck_here", "_law_items"] : List Str).zip us) := fun _ _ _ _ _ _ us hl => match us, hl with | [_, _], _ => rfl
theorem bn52 : ∀ (kV doc pm : Value) (an : Option Addr) (cdv ct : Value) (us : List Value), us.length = (["_law_deck_here", "_law_many"] : List Str).length → bindArgs (PySem.W.fnOf "_law_buttons" "_law_buttons" (defArgs (tp 52)) (defBody (tp 52)) (defScope (tp 52)) .none kV doc pm an cdv ct) ⟨us, []⟩ = pure ((["_law_deck_here", "_law_many"] : List Str).zip us) := fun _ _ _ _ _ _ us hl => match us, hl with | [_, _], _ => rfl
theorem bn53 : ∀ (kV doc pm : Value) (an : Option Addr) (cdv ct : Value) (us : List Value), us.length = (["_law_deck_here", "_law_buttons_here"] : List Str).length → bindArgs (PySem.W.fnOf "_law_nest" "_law_nest" (defArgs (tp 53)) (defBody (tp 53)) (defScope (tp 53)) .none kV doc pm an cdv ct) ⟨us, []⟩ = pure ((["_law_deck_here", "_law_buttons_here"] : List Str).zip us) := fun _ _ _ _ _ _ us hl => match us, hl with | [_, _], _ => rfl
theorem bn54 : ∀ (kV doc pm : Value) (an : Option Addr) (cdv ct : Value) (us : List Value), us.length = (["_law_tree"] : List Str).length → bindArgs (PySem.W.fnOf "_law_least" "_law_least" (defArgs (tp 54)) (defBody (tp 54)) (defScope (tp 54)) .none kV doc pm an cdv ct) ⟨us, []⟩ = pure ((["_law_tree"] : List Str).zip us) := fun _ _ _ _ _ _ us hl => match us, hl with | [_], _ => rfl
theorem bn55 : ∀ (kV doc pm : Value) (an : Option Addr) (cdv ct : Value) (us : List Value), us.length = (["_law_tree"] : List Str).length → bindArgs (PySem.W.fnOf "_law_reduced" "_law_reduced" (defArgs (tp 55)) (defBody (tp 55)) (defScope (tp 55)) .none kV doc pm an cdv ct) ⟨us, []⟩ = pure ((["_law_tree"] : List Str).zip us) := fun _ _ _ _ _ _ us hl => match us, hl with | [_], _ => rfl
theorem bn56 : ∀ (kV doc pm : Value) (an : Option Addr) (cdv ct : Value) (us : List Value), us.length = (["_law_tree"] : List Str).length → bindArgs (PySem.W.fnOf "_law_all" "_law_all" (defArgs (tp 56)) (defBody (tp 56)) (defScope (tp 56)) .none kV doc pm an cdv ct) ⟨us, []⟩ = pure ((["_law_tree"] : List Str).zip us) := fun _ _ _ _ _ _ us hl => match us, hl with | [_], _ => rfl
theorem bn57 : ∀ (kV doc pm : Value) (an : Option Addr) (cdv ct : Value) (us : List Value), us.length = (["_law_tree"] : List Str).length → bindArgs (PySem.W.fnOf "_law_trips" "_law_trips" (defArgs (tp 57)) (defBody (tp 57)) (defScope (tp 57)) .none kV doc pm an cdv ct) ⟨us, []⟩ = pure ((["_law_tree"] : List Str).zip us) := fun _ _ _ _ _ _ us hl => match us, hl with | [_], _ => rfl
theorem bn59 : ∀ (kV doc pm : Value) (an : Option Addr) (cdv ct : Value) (us : List Value), us.length = (["_law_tree"] : List Str).length → bindArgs (PySem.W.fnOf "_law_weighed" "_law_weighed" (defArgs (tp 59)) (defBody (tp 59)) (defScope (tp 59)) .none kV doc pm an cdv ct) ⟨us, []⟩ = pure ((["_law_tree"] : List Str).zip us) := fun _ _ _ _ _ _ us hl => match us, hl with | [_], _ => rfl
theorem bn60 : ∀ (kV doc pm : Value) (an : Option Addr) (cdv ct : Value) (us : List Value), us.length = (["_law_tree", "_law_buttons_here"] : List Str).length → bindArgs (PySem.W.fnOf "_law_table" "_law_table" (defArgs (tp 60)) (defBody (tp 60)) (defScope (tp 60)) .none kV doc pm an cdv ct) ⟨us, []⟩ = pure ((["_law_tree", "_law_buttons_here"] : List Str).zip us) := fun _ _ _ _ _ _ us hl => match us, hl with | [_, _], _ => rfl
theorem bn61 : ∀ (kV doc pm : Value) (an : Option Addr) (cdv ct : Value) (us : List Value), us.length = (["_law_tree", "_law_marks", "_law_full"] : List Str).length → bindArgs (PySem.W.fnOf "_law_bits" "_law_bits" (defArgs (tp 61)) (defBody (tp 61)) (defScope (tp 61)) .none kV doc pm an cdv ct) ⟨us, []⟩ = pure ((["_law_tree", "_law_marks", "_law_full"] : List Str).zip us) := fun _ _ _ _ _ _ us hl => match us, hl with | [_, _, _], _ => rfl
theorem bn62 : ∀ (kV doc pm : Value) (an : Option Addr) (cdv ct : Value) (us : List Value), us.length = (["_law_weights"] : List Str).length → bindArgs (PySem.W.fnOf "_law_sums" "_law_sums" (defArgs (tp 62)) (defBody (tp 62)) (defScope (tp 62)) .none kV doc pm an cdv ct) ⟨us, []⟩ = pure ((["_law_weights"] : List Str).zip us) := fun _ _ _ _ _ _ us hl => match us, hl with | [_], _ => rfl
theorem bn63 : ∀ (kV doc pm : Value) (an : Option Addr) (cdv ct : Value) (us : List Value), us.length = (["_law_tree", "_law_is_named"] : List Str).length → bindArgs (PySem.W.fnOf "_law_is_told" "_law_is_told" (defArgs (tp 63)) (defBody (tp 63)) (defScope (tp 63)) .none kV doc pm an cdv ct) ⟨us, []⟩ = pure ((["_law_tree", "_law_is_named"] : List Str).zip us) := fun _ _ _ _ _ _ us hl => match us, hl with | [_, _], _ => rfl
theorem bn64 : ∀ (kV doc pm : Value) (an : Option Addr) (cdv ct : Value) (us : List Value), us.length = (["_law_tree"] : List Str).length → bindArgs (PySem.W.fnOf "_law_is_lots" "_law_is_lots" (defArgs (tp 64)) (defBody (tp 64)) (defScope (tp 64)) .none kV doc pm an cdv ct) ⟨us, []⟩ = pure ((["_law_tree"] : List Str).zip us) := fun _ _ _ _ _ _ us hl => match us, hl with | [_], _ => rfl
theorem bn65 : ∀ (kV doc pm : Value) (an : Option Addr) (cdv ct : Value) (us : List Value), us.length = (["_law_tree"] : List Str).length → bindArgs (PySem.W.fnOf "_law_is_least" "_law_is_least" (defArgs (tp 65)) (defBody (tp 65)) (defScope (tp 65)) .none kV doc pm an cdv ct) ⟨us, []⟩ = pure ((["_law_tree"] : List Str).zip us) := fun _ _ _ _ _ _ us hl => match us, hl with | [_], _ => rfl
theorem bn66 : ∀ (kV doc pm : Value) (an : Option Addr) (cdv ct : Value) (us : List Value), us.length = (["_law_script"] : List Str).length → bindArgs (PySem.W.fnOf "law" "law" (defArgs (tp 66)) (defBody (tp 66)) (defScope (tp 66)) .none kV doc pm an cdv ct) ⟨us, []⟩ = pure ((["_law_script"] : List Str).zip us) := fun _ _ _ _ _ _ us hl => match us, hl with | [_], _ => rfl
theorem all_mk {P : Program} {w : World} {K : PySem.W.Frag} {h : Heap} {mg : Str → Option Value} {fa : Addr} (X : K.In h) (G : h.Ns mainGlobals mg) (hfa : mg "law" = some (.ref fa))
    (d7 : Df K mg "is_trip" (tp 7) ["tree"])
    (d12 : Df K mg "least_button" (tp 12) ["tree"])
    (d13 : Df K mg "is_like_trip" (tp 13) ["part", "bound", "many"])
    (d14 : Df K mg "told_trip" (tp 14) ["bound", "parts"])
    (d15 : Df K mg "told" (tp 15) ["tree"])
    (d17 : Df K mg "own_buttons" (tp 17) ["tree"])
    (d18 : Df K mg "own_trips" (tp 18) ["tree"])
    (d19 : Df K mg "fork_from" (tp 19) ["tree", "way"])
    (d20 : Df K mg "level_rows" (tp 20) ["tree"])
    (d21 : Df K mg "weight_over" (tp 21) ["k", "many", "a", "b"])
    (d22 : Df K mg "pairs_and_weights" (tp 22) ["rows"])
    (d41 : Df K mg "swap_of" (tp 41) ["tree"])
    (d43 : Df K mg "need_nest" (tp 43) ["tree"])
    (d44 : Df K mg "levels" (tp 44) ["tree"])
    (d45 : Df K mg "pair" (tp 45) ["tree"])
    (d46 : Df K mg "scale_of" (tp 46) ["tree"])
    (d48 : Df K mg "_law_deck" (tp 48) ["_law_script"])
    (d49 : Df K mg "_law_draw" (tp 49) ["_law_deck_here", "_law_many"])
    (d50 : Df K mg "_law_pick" (tp 50) ["_law_deck_here", "_law_items"])
    (d51 : Df K mg "_law_mixed" (tp 51) ["_law_deck_here", "_law_items"])
    (d52 : Df K mg "_law_buttons" (tp 52) ["_law_deck_here", "_law_many"])
    (d53 : Df K mg "_law_nest" (tp 53) ["_law_deck_here", "_law_buttons_here"])
    (d54 : Df K mg "_law_least" (tp 54) ["_law_tree"])
    (d55 : Df K mg "_law_reduced" (tp 55) ["_law_tree"])
    (d56 : Df K mg "_law_all" (tp 56) ["_law_tree"])
    (d57 : Df K mg "_law_trips" (tp 57) ["_law_tree"])
    (d59 : Df K mg "_law_weighed" (tp 59) ["_law_tree"])
    (d60 : Df K mg "_law_table" (tp 60) ["_law_tree", "_law_buttons_here"])
    (d61 : Df K mg "_law_bits" (tp 61) ["_law_tree", "_law_marks", "_law_full"])
    (d62 : Df K mg "_law_sums" (tp 62) ["_law_weights"])
    (d63 : Df K mg "_law_is_told" (tp 63) ["_law_tree", "_law_is_named"])
    (d64 : Df K mg "_law_is_lots" (tp 64) ["_law_tree"])
    (d65 : Df K mg "_law_is_least" (tp 65) ["_law_tree"])
    (d66 : Df K mg "law" (tp 66) ["_law_script"])
    (z_isinstance : PySem.W.nsIn K mainGlobals "isinstance" = some none)
    (z_int : PySem.W.nsIn K mainGlobals "int" = some none)
    (z_tuple : PySem.W.nsIn K mainGlobals "tuple" = some none)
    (z_len : PySem.W.nsIn K mainGlobals "len" = some none)
    (z_sorted : PySem.W.nsIn K mainGlobals "sorted" = some none)
    (z_enumerate : PySem.W.nsIn K mainGlobals "enumerate" = some none)
    (z_max : PySem.W.nsIn K mainGlobals "max" = some none)
    (z_min : PySem.W.nsIn K mainGlobals "min" = some none)
    (z_zip : PySem.W.nsIn K mainGlobals "zip" = some none)
    (z_list : PySem.W.nsIn K mainGlobals "list" = some none)
    (z_dict : PySem.W.nsIn K mainGlobals "dict" = some none)
    (z_range : PySem.W.nsIn K mainGlobals "range" = some none)
    (z_sum : PySem.W.nsIn K mainGlobals "sum" = some none)
    (z_repr : PySem.W.nsIn K mainGlobals "repr" = some none)
    (z_abs : PySem.W.nsIn K mainGlobals "abs" = some none)
    : ∃ fd : FuncData, (∀ (s : Shared) (v : Value), BindsTo s fd ⟨[v], []⟩ [("_law_script", v)]) ∧ ∀ base : Heap, K.In base → base.Ns mainGlobals mg → GOk P w K mg base 36 fa fd ["_law_script"] (sp_law K) := by
  have B : Bi mg := ⟨PySem.W.mg_none_of X G z_isinstance, PySem.W.mg_none_of X G z_int, PySem.W.mg_none_of X G z_tuple, PySem.W.mg_none_of X G z_len, PySem.W.mg_none_of X G z_sorted, PySem.W.mg_none_of X G z_enumerate, PySem.W.mg_none_of X G z_max, PySem.W.mg_none_of X G z_min, PySem.W.mg_none_of X G z_zip, PySem.W.mg_none_of X G z_list, PySem.W.mg_none_of X G z_dict, PySem.W.mg_none_of X G z_range, PySem.W.mg_none_of X G z_sum, PySem.W.mg_none_of X G z_repr, PySem.W.mg_none_of X G z_abs⟩
  obtain ⟨f, fd, F, m, b⟩ := d66.ex
  rw [hfa] at m
  cases m
  refine ⟨fd, fun s v => ?_, fun base _ _ => ?_⟩
  · obtain ⟨oc, od, kV, doc, pm, an, cdv, ct, osl, efd, _, _⟩ := F.ex
    subst efd
    exact .of_eq (bn66 kV doc pm an cdv ct [v] rfl)
  · have c7 := ok_is_trip (P := P) (w := w) (base := base) B d7
    have c12 := ok_least_button (P := P) (w := w) (base := base) d12 c7
    have c13 := ok_is_like (P := P) (w := w) (base := base) B d13 c7
    have c14 := ok_told_trip (P := P) (w := w) (base := base) B d14 c13 c12
    have c15 := ok_told (P := P) (w := w) (base := base) d15 c7 c14 16
    have c17 := ok_own_buttons (P := P) (w := w) (base := base) d17 c7
    have c18 := ok_own_trips (P := P) (w := w) (base := base) d18 c7
    have c19 := ok_fork (P := P) (w := w) (base := base) B d19 c7 c18 16
    have c20 := ok_level_rows (P := P) (w := w) (base := base) B d20 c7 c15 c17 c18
    have c21 := ok_weight_over (P := P) (w := w) (base := base) B d21
    have c22 := ok_paws (P := P) (w := w) (base := base) B d22 c21
    have c41 := ok_swap_of (P := P) (w := w) (base := base) d41 c15 c19
    have c43 := ok_need (P := P) (w := w) (base := base) d43 c41
    have c44 := ok_levels (P := P) (w := w) (base := base) B d44 c43 c20
    have c45 := ok_pair (P := P) (w := w) (base := base) B d45 c44 c22
    have c46 := ok_scale (P := P) (w := w) (base := base) B d46 c44 c22
    have c48 := ok_deck (P := P) (w := w) (base := base) B d48
    have c49 := ok_draw (P := P) (w := w) (base := base) B d49
    have c50 := ok_pick (P := P) (w := w) (base := base) B d50 c49
    have c51 := ok_mixed (P := P) (w := w) (base := base) B d51 c49
    have c52 := ok_buttons (P := P) (w := w) (base := base) B d52 c49 c51
    have c53 := ok_nest (P := P) (w := w) (base := base) B d53 c49 c50
    have c54 := ok_lleast (P := P) (w := w) (base := base) B d54 16
    have c55 := ok_reduced (P := P) (w := w) (base := base) B d55 c54 16
    have c56 := ok_all (P := P) (w := w) (base := base) B d56 16
    have c57 := ok_trips (P := P) (w := w) (base := base) B d57
    have c59 := ok_weighed (P := P) (w := w) (base := base) B d59 c57 16
    have c61 := fun Z S => ok_bits (P := P) (w := w) (base := base) (Z := Z) (S := S) B d61 16
    have c60 := ok_table (P := P) (w := w) (base := base) B d60 c61
    have c62 := ok_sums (P := P) (w := w) (base := base) d62
    have c63 := ok_istold (P := P) (w := w) (base := base) B d63 c59 c55 c45 c46
    have c64 := ok_lots (P := P) (w := w) (base := base) B d64 c46.cal c60 c62 c56
    have c65 := ok_least (P := P) (w := w) (base := base) B d65 c46.cal c60 c62
    exact ok_law (P := P) (w := w) (base := base) B F c48 c49 c52 c53 c63 c64 c65
theorem walk {l : PySem.W.OpenLaw} {n : Nat} {q : Program} {loose : List Str} {XP : (Str → Option Value) → Heap → Prop} {YP : World → Heap → Prop} {d : DefRec} {K : Params → PySem.W.Frag} (hn : l.most = some n) (hn2 : n ≤ sizeLine) (hdf : d.params.defaults = [])
    (hY : ∀ (w : World) (h : Heap), YP w h → (K w.params).In h)
    (F : ∀ (w : World) (mg : Str → Option Value) (fa : Addr) (h : Heap), (K w.params).In h → h.Ns mainGlobals mg → mg d.name = some (.ref fa) →
      ∃ fd : FuncData, (∀ (s : Shared) (u : Value), BindsTo s fd ⟨[u], []⟩ [("_law_script", u)]) ∧ ∀ base : Heap, (K w.params).In base → base.Ns mainGlobals mg → GOk l.prog w (K w.params) mg base 36 fa fd ["_law_script"] (sp_law (K w.params))) :
    PySem.W.WalkO q loose XP YP l.row.toRowW d [] (fun f vs => PySem.call f vs) :=
  walk_top (n := n) (k := 36) (x := "_law_script") (sp := fun w => sp_law (K w.params)) hn hn2 hdf ⟨rfl, by decide, by decide⟩ hY F fun _ _ a ns hS => ⟨a, ns, rfl, hS, fun _ => rfl⟩
end Ks
open PySem PySem.W PyProof.Rows
set_option maxRecDepth 100000 in
set_option maxHeartbeats 0 in
theorem PySem.Challenge.cw_onescale_k30_whole_pairs_and_least_scale_holds : PySem.Challenge.rw_onescale_k30_whole_pairs_and_least_scale.Holds := by
  w_on; o_law; k_head; (case hw => w_witness2)
  k_fill
  refine Ks.walk (l := PySem.Challenge.rw_onescale_k30_whole_pairs_and_least_scale) rfl (by decide) rfl (fun w h Y => PySem.W.kIn_of Y) ?F
  case F =>
    intro w mg fa h KX G hmg
    refine' Ks.all_mk KX G hmg (Ks.df_mk KX G Ks.bn7 ?a7 ?l7 ?c7 ?k7) (Ks.df_mk KX G Ks.bn12 ?a12 ?l12 ?c12 ?k12) (Ks.df_mk KX G Ks.bn13 ?a13 ?l13 ?c13 ?k13) (Ks.df_mk KX G Ks.bn14 ?a14 ?l14 ?c14 ?k14) (Ks.df_mk KX G Ks.bn15 ?a15 ?l15 ?c15 ?k15) (Ks.df_mk KX G Ks.bn17 ?a17 ?l17 ?c17 ?k17) (Ks.df_mk KX G Ks.bn18 ?a18 ?l18 ?c18 ?k18) (Ks.df_mk KX G Ks.bn19 ?a19 ?l19 ?c19 ?k19) (Ks.df_mk KX G Ks.bn20 ?a20 ?l20 ?c20 ?k20) (Ks.df_mk KX G Ks.bn21 ?a21 ?l21 ?c21 ?k21) (Ks.df_mk KX G Ks.bn22 ?a22 ?l22 ?c22 ?k22) (Ks.df_mk KX G Ks.bn41 ?a41 ?l41 ?c41 ?k41) (Ks.df_mk KX G Ks.bn43 ?a43 ?l43 ?c43 ?k43) (Ks.df_mk KX G Ks.bn44 ?a44 ?l44 ?c44 ?k44) (Ks.df_mk KX G Ks.bn45 ?a45 ?l45 ?c45 ?k45) (Ks.df_mk KX G Ks.bn46 ?a46 ?l46 ?c46 ?k46) (Ks.df_mk KX G Ks.bn48 ?a48 ?l48 ?c48 ?k48) (Ks.df_mk KX G Ks.bn49 ?a49 ?l49 ?c49 ?k49) (Ks.df_mk KX G Ks.bn50 ?a50 ?l50 ?c50 ?k50) (Ks.df_mk KX G Ks.bn51 ?a51 ?l51 ?c51 ?k51) (Ks.df_mk KX G Ks.bn52 ?a52 ?l52 ?c52 ?k52) (Ks.df_mk KX G Ks.bn53 ?a53 ?l53 ?c53 ?k53) (Ks.df_mk KX G Ks.bn54 ?a54 ?l54 ?c54 ?k54) (Ks.df_mk KX G Ks.bn55 ?a55 ?l55 ?c55 ?k55) (Ks.df_mk KX G Ks.bn56 ?a56 ?l56 ?c56 ?k56) (Ks.df_mk KX G Ks.bn57 ?a57 ?l57 ?c57 ?k57) (Ks.df_mk KX G Ks.bn59 ?a59 ?l59 ?c59 ?k59) (Ks.df_mk KX G Ks.bn60 ?a60 ?l60 ?c60 ?k60) (Ks.df_mk KX G Ks.bn61 ?a61 ?l61 ?c61 ?k61) (Ks.df_mk KX G Ks.bn62 ?a62 ?l62 ?c62 ?k62) (Ks.df_mk KX G Ks.bn63 ?a63 ?l63 ?c63 ?k63) (Ks.df_mk KX G Ks.bn64 ?a64 ?l64 ?c64 ?k64) (Ks.df_mk KX G Ks.bn65 ?a65 ?l65 ?c65 ?k65) (Ks.df_mk KX G Ks.bn66 ?a66 ?l66 ?c66 ?k66) ?z_isinstance ?z_int ?z_tuple ?z_len ?z_sorted ?z_enumerate ?z_max ?z_min ?z_zip ?z_list ?z_dict ?z_range ?z_sum ?z_repr ?z_abs
    (case a7 => k_is); (case l7 => k_is); (case c7 => k_is); (case k7 => k_is)
    (case a12 => k_is); (case l12 => k_is); (case c12 => k_is); (case k12 => k_is)
    (case a13 => k_is); (case l13 => k_is); (case c13 => k_is); (case k13 => k_is)
    (case a14 => k_is); (case l14 => k_is); (case c14 => k_is); (case k14 => k_is)
    (case a15 => k_is); (case l15 => k_is); (case c15 => k_is); (case k15 => k_is)
    (case a17 => k_is); (case l17 => k_is); (case c17 => k_is); (case k17 => k_is)
    (case a18 => k_is); (case l18 => k_is); (case c18 => k_is); (case k18 => k_is)
    (case a19 => k_is); (case l19 => k_is); (case c19 => k_is); (case k19 => k_is)
    (case a20 => k_is); (case l20 => k_is); (case c20 => k_is); (case k20 => k_is)
    (case a21 => k_is); (case l21 => k_is); (case c21 => k_is); (case k21 => k_is)
    (case a22 => k_is); (case l22 => k_is); (case c22 => k_is); (case k22 => k_is)
    (case a41 => k_is); (case l41 => k_is); (case c41 => k_is); (case k41 => k_is)
    (case a43 => k_is); (case l43 => k_is); (case c43 => k_is); (case k43 => k_is)
    (case a44 => k_is); (case l44 => k_is); (case c44 => k_is); (case k44 => k_is)
    (case a45 => k_is); (case l45 => k_is); (case c45 => k_is); (case k45 => k_is)
    (case a46 => k_is); (case l46 => k_is); (case c46 => k_is); (case k46 => k_is)
    (case a48 => k_is); (case l48 => k_is); (case c48 => k_is); (case k48 => k_is)
    (case a49 => k_is); (case l49 => k_is); (case c49 => k_is); (case k49 => k_is)
    (case a50 => k_is); (case l50 => k_is); (case c50 => k_is); (case k50 => k_is)
    (case a51 => k_is); (case l51 => k_is); (case c51 => k_is); (case k51 => k_is)
    (case a52 => k_is); (case l52 => k_is); (case c52 => k_is); (case k52 => k_is)
    (case a53 => k_is); (case l53 => k_is); (case c53 => k_is); (case k53 => k_is)
    (case a54 => k_is); (case l54 => k_is); (case c54 => k_is); (case k54 => k_is)
    (case a55 => k_is); (case l55 => k_is); (case c55 => k_is); (case k55 => k_is)
    (case a56 => k_is); (case l56 => k_is); (case c56 => k_is); (case k56 => k_is)
    (case a57 => k_is); (case l57 => k_is); (case c57 => k_is); (case k57 => k_is)
    (case a59 => k_is); (case l59 => k_is); (case c59 => k_is); (case k59 => k_is)
    (case a60 => k_is); (case l60 => k_is); (case c60 => k_is); (case k60 => k_is)
    (case a61 => k_is); (case l61 => k_is); (case c61 => k_is); (case k61 => k_is)
    (case a62 => k_is); (case l62 => k_is); (case c62 => k_is); (case k62 => k_is)
    (case a63 => k_is); (case l63 => k_is); (case c63 => k_is); (case k63 => k_is)
    (case a64 => k_is); (case l64 => k_is); (case c64 => k_is); (case k64 => k_is)
    (case a65 => k_is); (case l65 => k_is); (case c65 => k_is); (case k65 => k_is)
    (case a66 => k_is); (case l66 => k_is); (case c66 => k_is); (case k66 => k_is)
    (case z_isinstance => k_is)
    (case z_int => k_is)
    (case z_tuple => k_is)
    (case z_len => k_is)
    (case z_sorted => k_is)
    (case z_enumerate => k_is)
    (case z_max => k_is)
    (case z_min => k_is)
    (case z_zip => k_is)
    (case z_list => k_is)
    (case z_dict => k_is)
    (case z_range => k_is)
    (case z_sum => k_is)
    (case z_repr => k_is)
    (case z_abs => k_is)
