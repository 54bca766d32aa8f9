import PyProof.Rows.All
import Wide.All
import OpenK.AllK
import Wide.FinOn
import HandS.ForMost
import HandS.ForExc
import HandS.Star
import HandS.Defaults
import HandS.IsInst
import HandS.RevRange
import HandS.Wide
import HandS.EndBits
import HandS.TupLe
import HandS.TupAny
import HandS.Conv
import HandS.OwnEq
import HandS.GenCall
import HandS.ExcInit
import KE.LtData
import PySem.Challenge.RW_joinedguests_k07_whole_least_forms_of_co
import HandS.GenList
import HandS.Walk
import HandS.ExcField
import HandS.WordsExc
import HandS.ExcOwn
set_option Elab.async false
set_option linter.all false
set_option maxRecDepth 100000
set_option maxHeartbeats 8000000
set_option autoImplicit false
/-! The plain law: orders of guests, rows, the least rows, likenesses. No program in sight. -/
namespace K7
/-! ### a strict total order, and the order of tuples over it -/
structure STO {α : Type} (lt : α → α → Bool) : Prop where
  irr : ∀ a, lt a a = false
  tr : ∀ a b c, lt a b = true → lt b c = true → lt a c = true
  tot : ∀ a b, a ≠ b → lt a b = true ∨ lt b a = true

def lexB {α : Type} [DecidableEq α] (lt : α → α → Bool) : List α → List α → Bool
  | [], [] => false
  | [], _ :: _ => true
  | _ :: _, [] => false
  | x :: xs, y :: ys => if x = y then lexB lt xs ys else lt x y

theorem STO.asym {α : Type} {lt : α → α → Bool} (h : STO lt) {a b : α} (q : lt a b = true) : lt b a = false := by
  cases e : lt b a with
  | false => rfl
  | true =>
    have := h.tr a b a q e
    rw [h.irr] at this
    cases this
theorem STO.eq_of {α : Type} {lt : α → α → Bool} (h : STO lt) {a b : α} (p : lt a b = false) (q : lt b a = false) : a = b := by
  refine Classical.byContradiction fun n => ?_
  rcases h.tot a b n with z | z
  · rw [p] at z; cases z
  · rw [q] at z; cases z
/-- a ≤ b ≤ c -/
theorem STO.le_trans {α : Type} {lt : α → α → Bool} (h : STO lt) {a b c : α} (p : lt b a = false) (q : lt c b = false) : lt c a = false := by
  cases e : lt c a with
  | false => rfl
  | true =>
    by_cases hab : a = b
    · subst hab; rw [q] at e; cases e
    · rcases h.tot a b hab with z | z
      · have := h.tr c a b e z
        rw [q] at this; cases this
      · rw [p] at z; cases z
/-- what is less than one that is not greater -/
theorem STO.lt_le {α : Type} {lt : α → α → Bool} (h : STO lt) {a b c : α} (p : lt a b = true) (q : lt c b = false) : lt a c = true ∨ False := by
  by_cases hbc : b = c
  · subst hbc; exact .inl p
  · rcases h.tot b c hbc with z | z
    · exact .inl (h.tr a b c p z)
    · rw [q] at z; cases z

section
variable {α : Type} [DecidableEq α] {lt : α → α → Bool}
theorem lexB_irr (h : STO lt) : ∀ xs, lexB lt xs xs = false
  | [] => rfl
  | x :: xs => by
    show (if x = x then lexB lt xs xs else lt x x) = false
    rw [if_pos rfl]; exact lexB_irr h xs
theorem lexB_tr (h : STO lt) : ∀ xs ys zs, lexB lt xs ys = true → lexB lt ys zs = true → lexB lt xs zs = true
  | [], [], zs, a, _ => by cases a
  | [], _ :: _, [], _, b => by cases b
  | [], _ :: _, _ :: _, _, _ => rfl
  | _ :: _, [], _, a, _ => by cases a
  | _ :: _, _ :: _, [], _, b => by cases b
  | x :: xs, y :: ys, z :: zs, a, b => by
    have a : (if x = y then lexB lt xs ys else lt x y) = true := a
    have b : (if y = z then lexB lt ys zs else lt y z) = true := b
    show (if x = z then lexB lt xs zs else lt x z) = true
    by_cases e1 : x = y
    · subst e1
      have a : lexB lt xs ys = true := (if_pos (rfl : x = x)).symm.trans a
      by_cases e2 : x = z
      · have b : lexB lt ys zs = true := (if_pos e2).symm.trans b
        rw [if_pos e2]
        exact lexB_tr h xs ys zs a b
      · have b : lt x z = true := (if_neg e2).symm.trans b
        rw [if_neg e2]
        exact b
    · rw [if_neg e1] at a
      by_cases e2 : y = z
      · subst e2
        rw [if_neg e1]
        exact a
      · rw [if_neg e2] at b
        have c := h.tr x y z a b
        by_cases e3 : x = z
        · subst e3
          rw [h.irr] at c; cases c
        · rw [if_neg e3]; exact c
theorem lexB_tot (h : STO lt) : ∀ xs ys, xs ≠ ys → lexB lt xs ys = true ∨ lexB lt ys xs = true
  | [], [], n => absurd rfl n
  | [], _ :: _, _ => .inl rfl
  | _ :: _, [], _ => .inr rfl
  | x :: xs, y :: ys, n => by
    show (if x = y then lexB lt xs ys else lt x y) = true ∨ (if y = x then lexB lt ys xs else lt y x) = true
    by_cases e : x = y
    · subst e
      rw [if_pos rfl, if_pos rfl]
      exact lexB_tot h xs ys fun q => n (by rw [q])
    · rw [if_neg e, if_neg fun q => e q.symm]
      exact h.tot x y e
theorem STO.lex (h : STO lt) : STO (lexB lt) := ⟨lexB_irr h, lexB_tr h, lexB_tot h⟩
theorem lexB_snoc : ∀ (xs ys : List α) (a b : α), xs.length = ys.length → lexB lt (xs ++ [a]) (ys ++ [b]) = if xs = ys then lexB lt [a] [b] else lexB lt xs ys
  | [], [], a, b, _ => by rw [if_pos rfl]; rfl
  | x :: xs, y :: ys, a, b, hl => by
    have ih := lexB_snoc xs ys a b (by simpa using hl)
    show (if x = y then lexB lt (xs ++ [a]) (ys ++ [b]) else lt x y) = if x :: xs = y :: ys then lexB lt [a] [b] else (if x = y then lexB lt xs ys else lt x y)
    by_cases e : x = y
    · subst e
      rw [if_pos rfl, if_pos rfl, ih]
      by_cases e2 : xs = ys
      · subst e2; rw [if_pos rfl, if_pos rfl]
      · rw [if_neg e2, if_neg fun q => e2 (List.cons.inj q).2]
    · rw [if_neg e, if_neg e, if_neg fun q => e (List.cons.inj q).1]
  | [], _ :: _, _, _, hl => by simp at hl
  | _ :: _, [], _, _, hl => by simp at hl
theorem lexB_one (h : STO lt) (a b : α) : lexB lt [a] [b] = lt a b := by
  show (if a = b then false else lt a b) = lt a b
  by_cases e : a = b
  · subst e; rw [if_pos rfl, h.irr]
  · rw [if_neg e]
end

def lt0 (a b : Int) : Bool := decide (a < b)
theorem sto0 : STO lt0 := by
  refine ⟨fun a => decide_eq_false (Int.lt_irrefl a), fun a b c p q => ?_, fun a b n => ?_⟩
  · have p := of_decide_eq_true p
    have q := of_decide_eq_true q
    exact decide_eq_true (Int.lt_trans p q)
  · rcases Int.lt_or_gt_of_ne n with z | z
    · exact .inl (decide_eq_true z)
    · exact .inr (decide_eq_true z)
/-- rows of ties; rows of rows -/
def lt1 : List Int → List Int → Bool := lexB lt0
def lt2 : List (List Int) → List (List Int) → Bool := lexB lt1
theorem sto1 : STO lt1 := sto0.lex
theorem sto2 : STO lt2 := sto1.lex

/-! ### orders -/
/-- an order of k of the guests 0 .. n - 1 -/
structure Ord (n k : Nat) (o : List Nat) : Prop where
  len : o.length = k
  nd : o.Nodup
  lt : ∀ a ∈ o, a < n

theorem nodup_le : ∀ (n : Nat) (o : List Nat), o.Nodup → (∀ a ∈ o, a < n) → o.length ≤ n
  | 0, o, _, h => by
    cases o with
    | nil => exact Nat.le_refl _
    | cons a r => exact absurd (h a List.mem_cons_self) (Nat.not_lt_zero _)
  | n + 1, o, nd, h => by
    have ih := nodup_le n (o.erase n) (nd.erase n) fun a ha => by
      have h1 := h a (List.mem_of_mem_erase ha)
      have h2 : a ≠ n := (List.Nodup.mem_erase_iff nd).mp ha |>.1
      omega
    have := List.length_erase (a := n) (l := o)
    split at this <;> omega
theorem Ord.le {n k : Nat} {o : List Nat} (h : Ord n k o) : k ≤ n := by
  have := nodup_le n o h.nd h.lt
  rw [h.len] at this
  exact this
/-- an order of all guests meets each -/
theorem Ord.mem {n : Nat} {o : List Nat} (h : Ord n n o) {j : Nat} (hj : j < n) : j ∈ o := by
  refine Classical.byContradiction fun q => ?_
  have := nodup_le n (j :: o) (List.nodup_cons.mpr ⟨q, h.nd⟩) fun a ha => by
    rcases List.mem_cons.mp ha with e | ha
    · rw [e]; exact hj
    · exact h.lt a ha
  rw [List.length_cons, h.len] at this
  omega
/-- an order of less than all can go on -/
theorem Ord.more {n k : Nat} {o : List Nat} (h : Ord n k o) (hk : k < n) : ∃ p, p < n ∧ p ∉ o := by
  refine Classical.byContradiction fun q => ?_
  have all : ∀ p, p < n → p ∈ o := fun p hp => Classical.byContradiction fun z => q ⟨p, hp, z⟩
  have : (List.range n).length ≤ o.length := by
    have key : ∀ (l o : List Nat), l.Nodup → (∀ a ∈ l, a ∈ o) → l.length ≤ o.length := by
      intro l
      induction l with
      | nil => intro o _ _; exact Nat.zero_le _
      | cons a r ih =>
        intro o nd hs
        obtain ⟨h1, h2⟩ := List.nodup_cons.mp nd
        have hm : a ∈ o := hs a List.mem_cons_self
        have := ih (o.erase a) h2 fun b hb => by
          have hne : b ≠ a := fun e => h1 (e ▸ hb)
          exact (List.mem_erase_of_ne hne).mpr (hs b (List.mem_cons_of_mem _ hb))
        have e := List.length_erase_of_mem hm
        have hp : 0 < o.length := List.length_pos_of_mem hm
        rw [List.length_cons]; omega
    exact key _ _ List.nodup_range fun a ha => all a (List.mem_range.mp ha)
  rw [List.length_range, h.len] at this
  omega
theorem Ord.nil (n : Nat) : Ord n 0 [] := ⟨rfl, List.nodup_nil, fun _ h => nomatch h⟩
theorem Ord.snoc {n k : Nat} {o : List Nat} {p : Nat} (h : Ord n k o) (hp : p < n) (hn : p ∉ o) : Ord n (k + 1) (o ++ [p]) := by
  refine ⟨by rw [List.length_append, h.len, List.length_singleton], ?_, fun a ha => ?_⟩
  · rw [List.nodup_append]
    refine ⟨h.nd, by simp, fun a ha b hb e => ?_⟩
    rw [List.mem_singleton] at hb
    subst hb; subst e
    exact hn ha
  · rcases List.mem_append.mp ha with ha | ha
    · exact h.lt a ha
    · rw [List.mem_singleton] at ha; rw [ha]; exact hp
theorem Ord.unsnoc {n k : Nat} {o : List Nat} (h : Ord n (k + 1) o) : ∃ q p, o = q ++ [p] ∧ Ord n k q ∧ p < n ∧ p ∉ q := by
  have hne : o ≠ [] := fun e => by
    have := h.len
    rw [e] at this; cases this
  have e := List.dropLast_concat_getLast hne
  have nd := h.nd
  rw [← e, List.nodup_append] at nd
  refine ⟨o.dropLast, o.getLast hne, e.symm, ⟨?_, nd.1, fun a ha => h.lt a (List.dropLast_subset _ ha)⟩, h.lt _ (List.getLast_mem hne), fun hm => ?_⟩
  · rw [List.length_dropLast, h.len]; rfl
  · exact nd.2.2 _ hm _ (List.mem_singleton.mpr rfl) rfl
theorem Ord.get {n k : Nat} {o : List Nat} (h : Ord n k o) {i : Nat} (hi : i < k) : o.getD i 0 < n := by
  have hi' : i < o.length := by rw [h.len]; exact hi
  have e : o.getD i 0 = o[i] := by simp [hi']
  rw [e]; exact h.lt _ (List.getElem_mem hi')
theorem Ord.inj {n k : Nat} {o : List Nat} (h : Ord n k o) {i j : Nat} (hi : i < k) (hj : j < k) (e : o.getD i 0 = o.getD j 0) : i = j := by
  have hi' : i < o.length := by rw [h.len]; exact hi
  have hj' : j < o.length := by rw [h.len]; exact hj
  have e1 : o.getD i 0 = o[i] := by simp [hi']
  have e2 : o.getD j 0 = o[j] := by simp [hj']
  rw [e1, e2] at e
  exact (List.getElem_inj h.nd).mp e
theorem Ord.range (n : Nat) : Ord n n (List.range n) := ⟨List.length_range, List.nodup_range, fun _ h => List.mem_range.mp h⟩
/-- where j stands in the order -/
theorem Ord.pos {n : Nat} {o : List Nat} (h : Ord n n o) {j : Nat} (hj : j < n) : ∃ i, i < n ∧ o.getD i 0 = j := by
  obtain ⟨i, hi, e⟩ := List.getElem_of_mem (h.mem hj)
  refine ⟨i, by rw [← h.len]; exact hi, ?_⟩
  simp [hi, e]
/-- an order made of a function -/
theorem Ord.of_fn {n : Nat} {f : Nat → Nat} (h1 : ∀ i, i < n → f i < n) (h2 : ∀ i j, i < n → j < n → f i = f j → i = j) : Ord n n ((List.range n).map f) := by
  refine ⟨by rw [List.length_map, List.length_range], ?_, fun a ha => ?_⟩
  · rw [List.nodup_iff_pairwise_ne, List.pairwise_map]
    exact List.Pairwise.imp_of_mem (fun ha hb n e => n (h2 _ _ (List.mem_range.mp ha) (List.mem_range.mp hb) e)) (List.nodup_iff_pairwise_ne.mp List.nodup_range)
  · obtain ⟨i, hi, rfl⟩ := List.mem_map.mp ha
    exact h1 i (List.mem_range.mp hi)
theorem getD_fn {n i : Nat} {f : Nat → Nat} (h : i < n) : ((List.range n).map f).getD i 0 = f i := by simp [h]
/-- one order after another -/
def cmp (o x : List Nat) : List Nat := x.map fun i => o.getD i 0
theorem cmp_get {o x : List Nat} {i : Nat} (h : i < x.length) : (cmp o x).getD i 0 = o.getD (x.getD i 0) 0 := by
  unfold cmp; simp [h]
theorem Ord.cmp {n : Nat} {o x : List Nat} (h : Ord n n o) (g : Ord n n x) : Ord n n (K7.cmp o x) := by
  unfold K7.cmp
  refine ⟨by rw [List.length_map, g.len], ?_, fun a ha => ?_⟩
  · rw [List.nodup_iff_pairwise_ne, List.pairwise_map]
    exact List.Pairwise.imp_of_mem (fun ha hb n e => n (h.inj (g.lt _ ha) (g.lt _ hb) e)) (List.nodup_iff_pairwise_ne.mp g.nd)
  · obtain ⟨i, hi, rfl⟩ := List.mem_map.mp ha
    exact h.get (g.lt i hi)

/-! ### rows of an order -/
abbrev Mx := Nat → Nat → Int
def rowsO (M : Mx) (o : List Nat) : List (List Int) := (List.range o.length).map fun k => (List.range k).map fun a => M (o.getD k 0) (o.getD a 0)
/-- the rows of the guests as they stand -/
def rowsM (M : Mx) (n : Nat) : List (List Int) := (List.range n).map fun k => (List.range k).map fun a => M k a
def tblM (M : Mx) (n : Nat) : List (List Int) := (List.range n).map fun k => (List.range n).map fun a => M k a
theorem rowsO_len (M : Mx) (o : List Nat) : (rowsO M o).length = o.length := by unfold rowsO; rw [List.length_map, List.length_range]
theorem rowsO_snoc (M : Mx) (o : List Nat) (p : Nat) : rowsO M (o ++ [p]) = rowsO M o ++ [o.map (M p)] := by
  unfold rowsO
  rw [List.length_append, List.length_singleton, List.range_succ, List.map_append]
  congr 1
  · refine List.map_congr_left fun k hk => ?_
    have hk := List.mem_range.mp hk
    refine List.map_congr_left fun a ha => ?_
    have ha := List.mem_range.mp ha
    have e1 : (o ++ [p]).getD k 0 = o.getD k 0 := by simp [List.getElem?_append_left hk]
    have e2 : (o ++ [p]).getD a 0 = o.getD a 0 := by simp [List.getElem?_append_left (Nat.lt_trans ha hk)]
    rw [e1, e2]
  · show [_] = [_]
    congr 1
    have e1 : (o ++ [p]).getD o.length 0 = p := by simp
    show (List.range o.length).map (fun a => M ((o ++ [p]).getD o.length 0) ((o ++ [p]).getD a 0)) = o.map (M p)
    rw [e1]
    apply List.ext_getElem
    · simp
    · intro i h1 h2
      have hi : i < o.length := by simpa using h1
      simp [List.getElem?_append_left hi, hi]
theorem rowsO_range (M : Mx) (n : Nat) : rowsO M (List.range n) = rowsM M n := by
  unfold rowsO rowsM
  rw [List.length_range]
  refine List.map_congr_left fun k hk => ?_
  have hk := List.mem_range.mp hk
  refine List.map_congr_left fun a ha => ?_
  have ha := List.mem_range.mp ha
  have e1 : (List.range n).getD k 0 = k := by simp [hk]
  have e2 : (List.range n).getD a 0 = a := by simp [Nat.lt_trans ha hk]
  rw [e1, e2]
theorem rowsO_congr {M M' : Mx} {o o' : List Nat} (hl : o.length = o'.length) (h : ∀ k a, a < k → k < o.length → M (o.getD k 0) (o.getD a 0) = M' (o'.getD k 0) (o'.getD a 0)) : rowsO M o = rowsO M' o' := by
  unfold rowsO
  rw [← hl]
  refine List.map_congr_left fun k hk => ?_
  refine List.map_congr_left fun a ha => ?_
  exact h k a (List.mem_range.mp ha) (List.mem_range.mp hk)
theorem rowsM_congr {M M' : Mx} {n : Nat} (h : ∀ k a, a < k → k < n → M k a = M' k a) : rowsM M n = rowsM M' n := by
  unfold rowsM
  refine List.map_congr_left fun k hk => List.map_congr_left fun a ha => ?_
  exact h k a (List.mem_range.mp ha) (List.mem_range.mp hk)
theorem rows_get {M : Mx} {o : List Nat} {k a : Nat} (ha : a < k) (hk : k < o.length) : ((rowsO M o).getD k []).getD a 0 = M (o.getD k 0) (o.getD a 0) := by
  unfold rowsO
  simp [hk, ha]
theorem rowsM_get {M : Mx} {n k a : Nat} (ha : a < k) (hk : k < n) : ((rowsM M n).getD k []).getD a 0 = M k a := by
  unfold rowsM
  simp [hk, ha]

/-! ### the least rows -/
structure IsLeast (M : Mx) (n : Nat) (R : List (List Int)) : Prop where
  some : ∃ o, Ord n n o ∧ rowsO M o = R
  least : ∀ o, Ord n n o → lt2 (rowsO M o) R = false
theorem IsLeast.unique {M : Mx} {n : Nat} {R R' : List (List Int)} (h : IsLeast M n R) (h' : IsLeast M n R') : R = R' := by
  obtain ⟨o, ho, e⟩ := h.some
  obtain ⟨o', ho', e'⟩ := h'.some
  refine sto2.eq_of ?_ ?_
  · rw [← e]; exact h'.least o ho
  · rw [← e']; exact h.least o' ho'

/-! ### the greedy steps -/
/-- what holds behind k steps -/
structure Greedy (M : Mx) (n k : Nat) (rows : List (List Int)) (orders : List (List Nat)) : Prop where
  is : ∀ o, o ∈ orders ↔ Ord n k o ∧ rowsO M o = rows
  le : ∀ o, Ord n k o → lt2 (rowsO M o) rows = false
  ne : orders ≠ []
theorem Greedy.start (M : Mx) (n : Nat) : Greedy M n 0 [] [[]] := by
  refine ⟨fun o => ⟨fun h => ?_, fun ⟨h, _⟩ => ?_⟩, fun o h => ?_, fun h => nomatch h⟩
  · rw [List.mem_singleton] at h
    subst h
    exact ⟨Ord.nil n, rfl⟩
  · rw [List.mem_singleton]
    exact List.length_eq_zero_iff.mp h.len
  · have : o = [] := List.length_eq_zero_iff.mp h.len
    subst this
    rfl
/-- one way to go on: the row behind, and the order -/
def stepOf (M : Mx) (o : List Nat) (p : Nat) : List Int × List Nat := (o.map (M p), o ++ [p])
/-- the ways to go on from one order -/
def stepsOne (M : Mx) (n : Nat) (o : List Nat) : List (List Int × List Nat) := ((List.range n).filter fun p => decide (p ∉ o)).map (stepOf M o)
def stepsAll (M : Mx) (n : Nat) (orders : List (List Nat)) : List (List Int × List Nat) := orders.flatMap (stepsOne M n)
theorem mem_steps {M : Mx} {n : Nat} {orders : List (List Nat)} {s : List Int × List Nat} : s ∈ stepsAll M n orders ↔ ∃ o ∈ orders, ∃ p, p < n ∧ p ∉ o ∧ s = stepOf M o p := by
  unfold stepsAll stepsOne
  rw [List.mem_flatMap]
  constructor
  · rintro ⟨o, ho, h⟩
    obtain ⟨p, hp, rfl⟩ := List.mem_map.mp h
    obtain ⟨h1, h2⟩ := List.mem_filter.mp hp
    exact ⟨o, ho, p, List.mem_range.mp h1, of_decide_eq_true h2, rfl⟩
  · rintro ⟨o, ho, p, h1, h2, rfl⟩
    exact ⟨o, ho, List.mem_map.mpr ⟨p, List.mem_filter.mpr ⟨List.mem_range.mpr h1, decide_eq_true h2⟩, rfl⟩⟩
theorem Greedy.ord {M : Mx} {n k : Nat} {rows : List (List Int)} {orders : List (List Nat)} (g : Greedy M n k rows orders) {o : List Nat} (h : o ∈ orders) : Ord n k o := ((g.is o).mp h).1
theorem Greedy.steps_ne {M : Mx} {n k : Nat} {rows : List (List Int)} {orders : List (List Nat)} (g : Greedy M n k rows orders) (hk : k < n) : stepsAll M n orders ≠ [] := by
  obtain ⟨o, ho⟩ := List.exists_mem_of_ne_nil _ g.ne
  obtain ⟨p, h1, h2⟩ := (g.ord ho).more hk
  intro e
  have : stepOf M o p ∈ stepsAll M n orders := mem_steps.mpr ⟨o, ho, p, h1, h2, rfl⟩
  rw [e] at this
  cases this
theorem Greedy.len {M : Mx} {n k : Nat} {rows : List (List Int)} {orders : List (List Nat)} (g : Greedy M n k rows orders) : rows.length = k := by
  obtain ⟨o, ho⟩ := List.exists_mem_of_ne_nil _ g.ne
  obtain ⟨h1, h2⟩ := (g.is o).mp ho
  rw [← h2, rowsO_len, h1.len]
/-- one step more -/
theorem Greedy.step {M : Mx} {n k : Nat} {rows : List (List Int)} {orders : List (List Nat)} (g : Greedy M n k rows orders) (best : List Int) (hb : ∃ s ∈ stepsAll M n orders, s.1 = best) (hl : ∀ s ∈ stepsAll M n orders, lt1 s.1 best = false) :
    Greedy M n (k + 1) (rows ++ [best]) (((stepsAll M n orders).filter fun s => decide (s.1 = best)).map (·.2)) := by
  have key : ∀ o, o ∈ ((stepsAll M n orders).filter fun s => decide (s.1 = best)).map (·.2) ↔ Ord n (k + 1) o ∧ rowsO M o = rows ++ [best] := fun o => by
    rw [List.mem_map]
    constructor
    · rintro ⟨s, hs, rfl⟩
      obtain ⟨h1, h2⟩ := List.mem_filter.mp hs
      obtain ⟨q, hq, p, hp, hn, rfl⟩ := mem_steps.mp h1
      obtain ⟨h3, h4⟩ := (g.is q).mp hq
      have h2 : q.map (M p) = best := of_decide_eq_true h2
      refine ⟨h3.snoc hp hn, ?_⟩
      show rowsO M (q ++ [p]) = _
      rw [rowsO_snoc, h4, h2]
    · rintro ⟨ho, e⟩
      obtain ⟨q, p, rfl, hq, hp, hn⟩ := ho.unsnoc
      rw [rowsO_snoc] at e
      have e1 : rowsO M q = rows ∧ [q.map (M p)] = [best] := List.append_inj e (by rw [rowsO_len, hq.len, g.len])
      have e2 : q.map (M p) = best := (List.cons.inj e1.2).1
      exact ⟨stepOf M q p, List.mem_filter.mpr ⟨mem_steps.mpr ⟨q, (g.is q).mpr ⟨hq, e1.1⟩, p, hp, hn, rfl⟩, decide_eq_true e2⟩, rfl⟩
  refine ⟨key, fun o ho => ?_, fun e => ?_⟩
  · obtain ⟨q, p, rfl, hq, hp, hn⟩ := ho.unsnoc
    rw [rowsO_snoc]
    show lexB lt1 _ _ = false
    rw [lexB_snoc _ _ _ _ (by rw [rowsO_len, hq.len, g.len])]
    by_cases e : rowsO M q = rows
    · rw [if_pos e, lexB_one sto1]
      exact hl (stepOf M q p) (mem_steps.mpr ⟨q, (g.is q).mpr ⟨hq, e⟩, p, hp, hn, rfl⟩)
    · rw [if_neg e]
      exact g.le q hq
  · obtain ⟨s, hs, hsb⟩ := hb
    have : s.2 ∈ ((stepsAll M n orders).filter fun s => decide (s.1 = best)).map (·.2) := List.mem_map.mpr ⟨s, List.mem_filter.mpr ⟨hs, decide_eq_true hsb⟩, rfl⟩
    rw [e] at this
    cases this
theorem Greedy.done {M : Mx} {n : Nat} {rows : List (List Int)} {orders : List (List Nat)} (g : Greedy M n n rows orders) : IsLeast M n rows := by
  obtain ⟨o, ho⟩ := List.exists_mem_of_ne_nil _ g.ne
  exact ⟨⟨o, (g.is o).mp ho⟩, g.le⟩

/-! ### how many -/
theorem flat_len {α β : Type} (f : α → List β) (m : Nat) : ∀ l : List α, (∀ a ∈ l, (f a).length ≤ m) → (l.flatMap f).length ≤ l.length * m
  | [], _ => by simp
  | a :: r, h => by
    rw [List.flatMap_cons, List.length_append, List.length_cons, Nat.succ_mul]
    have h1 := h a List.mem_cons_self
    have h2 := flat_len f m r fun b hb => h b (List.mem_cons_of_mem _ hb)
    omega
theorem stepsOne_len (M : Mx) (n : Nat) (o : List Nat) : (stepsOne M n o).length ≤ n := by
  unfold stepsOne
  rw [List.length_map]
  have := List.length_filter_le (fun p => decide (p ∉ o)) (List.range n)
  rw [List.length_range] at this
  exact this
theorem stepsAll_len (M : Mx) (n : Nat) (orders : List (List Nat)) : (stepsAll M n orders).length ≤ orders.length * n := flat_len _ n _ fun o _ => stepsOne_len M n o

/-! ### all orders, one guest at a time -/
def longerOne (n : Nat) (o : List Nat) : List (List Nat) := ((List.range n).filter fun p => decide (p ∉ o)).map fun p => o ++ [p]
def longerAll (n : Nat) (os : List (List Nat)) : List (List Nat) := os.flatMap (longerOne n)
theorem longerAll_len (n : Nat) (os : List (List Nat)) : (longerAll n os).length ≤ os.length * n := flat_len _ n _ fun o _ => by
  unfold longerOne
  rw [List.length_map]
  have := List.length_filter_le (fun p => decide (p ∉ o)) (List.range n)
  rw [List.length_range] at this
  exact this
def ordersN (n : Nat) : Nat → List (List Nat)
  | 0 => [[]]
  | k + 1 => longerAll n (ordersN n k)
theorem mem_ordersN (n : Nat) : ∀ (k : Nat) (o : List Nat), o ∈ ordersN n k ↔ Ord n k o
  | 0, o => by
    show o ∈ [[]] ↔ _
    rw [List.mem_singleton]
    exact ⟨fun e => e ▸ Ord.nil n, fun h => List.length_eq_zero_iff.mp h.len⟩
  | k + 1, o => by
    show o ∈ (ordersN n k).flatMap (longerOne n) ↔ _
    rw [List.mem_flatMap]
    constructor
    · rintro ⟨q, hq, h⟩
      obtain ⟨p, hp, rfl⟩ := List.mem_map.mp h
      obtain ⟨h1, h2⟩ := List.mem_filter.mp hp
      exact ((mem_ordersN n k q).mp hq).snoc (List.mem_range.mp h1) (of_decide_eq_true h2)
    · intro h
      obtain ⟨q, p, rfl, hq, hp, hn⟩ := h.unsnoc
      exact ⟨q, (mem_ordersN n k q).mpr hq, List.mem_map.mpr ⟨p, List.mem_filter.mpr ⟨List.mem_range.mpr hp, decide_eq_true hn⟩, rfl⟩⟩
theorem ordersN_len (n : Nat) : ∀ k, (ordersN n k).length ≤ n ^ k
  | 0 => Nat.le_refl _
  | k + 1 => by
    have h1 := longerAll_len n (ordersN n k)
    have h2 := Nat.mul_le_mul_right n (ordersN_len n k)
    rw [Nat.pow_succ]
    exact Nat.le_trans h1 h2
/-- the search through all orders -/
theorem least_all {M : Mx} {n : Nat} {R : List (List Int)} (hs : ∃ o, Ord n n o ∧ rowsO M o = R) (hl : ∀ o ∈ ordersN n n, lt2 (rowsO M o) R = false) : IsLeast M n R :=
  ⟨hs, fun o ho => hl o ((mem_ordersN n n o).mpr ho)⟩

/-! ### likenesses -/
/-- from guest j to guest i and back -/
def Anti (bk : Int → Int) (n : Nat) (M : Mx) : Prop := ∀ i j, i < n → j < n → i ≠ j → M i j = bk (M j i)
structure Like (M1 M2 : Mx) (n : Nat) (f : List Nat) : Prop where
  ord : Ord n n f
  ties : ∀ i j, j < i → i < n → M1 i j = M2 (f.getD i 0) (f.getD j 0)
def Alike (M1 M2 : Mx) (n : Nat) : Prop := ∃ f, Like M1 M2 n f
theorem Like.both {bk : Int → Int} {M1 M2 : Mx} {n : Nat} {f : List Nat} (h : Like M1 M2 n f) (a1 : Anti bk n M1) (a2 : Anti bk n M2) : ∀ i j, i < n → j < n → i ≠ j → M1 i j = M2 (f.getD i 0) (f.getD j 0) := fun i j hi hj hn => by
  rcases Nat.lt_or_gt_of_ne hn with z | z
  · rw [a1 i j hi hj hn, h.ties j i z hj, ← a2 _ _ (h.ord.get hi) (h.ord.get hj) fun e => hn (h.ord.inj hi hj e)]
  · exact h.ties i j z hi
theorem Like.symm {bk : Int → Int} {M1 M2 : Mx} {n : Nat} {f : List Nat} (h : Like M1 M2 n f) (a1 : Anti bk n M1) (a2 : Anti bk n M2) : Alike M2 M1 n := by
  have ex : ∀ j, ∃ i, j < n → i < n ∧ f.getD i 0 = j := fun j => by
    by_cases hj : j < n
    · obtain ⟨i, h1, h2⟩ := h.ord.pos hj
      exact ⟨i, fun _ => ⟨h1, h2⟩⟩
    · exact ⟨0, fun z => absurd z hj⟩
  let g : Nat → Nat := fun j => Classical.choose (ex j)
  have hg : ∀ j, j < n → g j < n ∧ f.getD (g j) 0 = j := fun j hj => Classical.choose_spec (ex j) hj
  refine ⟨(List.range n).map g, Ord.of_fn (fun i hi => (hg i hi).1) (fun i j hi hj e => ?_), fun i j hji hi => ?_⟩
  · rw [← (hg i hi).2, ← (hg j hj).2, e]
  · have hj : j < n := Nat.lt_trans hji hi
    rw [getD_fn hi, getD_fn hj]
    have hne : g i ≠ g j := fun e => by
      have : i = j := by rw [← (hg i hi).2, ← (hg j hj).2, e]
      omega
    rw [h.both a1 a2 (g i) (g j) (hg i hi).1 (hg j hj).1 hne, (hg i hi).2, (hg j hj).2]
theorem Like.rows {bk : Int → Int} {M1 M2 : Mx} {n : Nat} {f o : List Nat} (h : Like M1 M2 n f) (a1 : Anti bk n M1) (a2 : Anti bk n M2) (ho : Ord n n o) : rowsO M1 o = rowsO M2 (cmp f o) := by
  refine rowsO_congr (by unfold cmp; rw [List.length_map]) fun k a hak hk => ?_
  rw [cmp_get hk, cmp_get (Nat.lt_trans hak hk)]
  have hk' : k < n := by rw [← ho.len]; exact hk
  exact h.both a1 a2 _ _ (ho.get hk') (ho.get (Nat.lt_trans hak hk')) fun e => by
    have := ho.inj hk' (Nat.lt_trans hak hk') e
    omega
theorem Like.least {bk : Int → Int} {M1 M2 : Mx} {n : Nat} {f : List Nat} {R : List (List Int)} (h : Like M1 M2 n f) (a1 : Anti bk n M1) (a2 : Anti bk n M2) (r : IsLeast M1 n R) : IsLeast M2 n R := by
  obtain ⟨o, ho, e⟩ := r.some
  refine ⟨⟨cmp f o, h.ord.cmp ho, by rw [← h.rows a1 a2 ho, e]⟩, fun x hx => ?_⟩
  obtain ⟨g, hg⟩ := h.symm a1 a2
  rw [hg.rows a2 a1 hx]
  exact r.least _ (hg.ord.cmp hx)
/-- both companies have equal least rows exactly if they are alike -/
theorem alike_iff {bk : Int → Int} {M1 M2 : Mx} {n : Nat} {R1 R2 : List (List Int)} (a1 : Anti bk n M1) (a2 : Anti bk n M2) (r1 : IsLeast M1 n R1) (r2 : IsLeast M2 n R2) : Alike M1 M2 n ↔ R1 = R2 := by
  constructor
  · rintro ⟨f, h⟩
    exact (h.least a1 a2 r1).unique r2
  · rintro rfl
    obtain ⟨o1, h1, e1⟩ := r1.some
    obtain ⟨o2, h2, e2⟩ := r2.some
    have same : ∀ k a, a < k → k < n → M1 (o1.getD k 0) (o1.getD a 0) = M2 (o2.getD k 0) (o2.getD a 0) := fun k a hak hk => by
      rw [← rows_get (M := M1) hak (by rw [h1.len]; exact hk), e1, ← e2, rows_get hak (by rw [h2.len]; exact hk)]
    -- M1 after o1 is M2 after o2
    have l1 : Like (fun a b => M1 (o1.getD a 0) (o1.getD b 0)) M1 n o1 := ⟨h1, fun _ _ _ _ => rfl⟩
    have b1 : Anti bk n (fun a b => M1 (o1.getD a 0) (o1.getD b 0)) := fun i j hi hj hn => a1 _ _ (h1.get hi) (h1.get hj) fun e => hn (h1.inj hi hj e)
    obtain ⟨g, hg⟩ := l1.symm b1 a1
    refine ⟨cmp o2 g, h2.cmp hg.ord, fun i j hji hi => ?_⟩
    have hj : j < n := Nat.lt_trans hji hi
    rw [cmp_get (by rw [hg.ord.len]; exact hi), cmp_get (by rw [hg.ord.len]; exact hj), hg.ties i j hji hi]
    have gi := hg.ord.get hi
    have gj := hg.ord.get hj
    have gne : g.getD i 0 ≠ g.getD j 0 := fun e => by
      have := hg.ord.inj hi hj e
      omega
    show M1 (o1.getD (g.getD i 0) 0) (o1.getD (g.getD j 0) 0) = _
    rcases Nat.lt_or_gt_of_ne gne with z | z
    · rw [a1 _ _ (h1.get gi) (h1.get gj) fun e => gne (h1.inj gi gj e), same _ _ z gj, ← a2 _ _ (h2.get gi) (h2.get gj) fun e => gne (h2.inj gi gj e)]
    · exact same _ _ z gi
/-- the company of an order is alike to the company -/
theorem like_ord {M : Mx} {n : Nat} {o : List Nat} (h : Ord n n o) : Like (fun a b => M (o.getD a 0) (o.getD b 0)) M n o := ⟨h, fun _ _ _ _ => rfl⟩
theorem anti_ord {bk : Int → Int} {M : Mx} {n : Nat} {o : List Nat} (a : Anti bk n M) (h : Ord n n o) : Anti bk n (fun a b => M (o.getD a 0) (o.getD b 0)) := fun i j hi hj hn => a _ _ (h.get hi) (h.get hj) fun e => hn (h.inj hi hj e)
theorem rowsM_ord {M : Mx} {n : Nat} {o : List Nat} (h : Ord n n o) : rowsM (fun a b => M (o.getD a 0) (o.getD b 0)) n = rowsO M o := by
  unfold rowsM rowsO
  rw [h.len]
theorem least_form {bk : Int → Int} {M : Mx} {n : Nat} {o : List Nat} {R : List (List Int)} (a : Anti bk n M) (h : Ord n n o) (r : IsLeast M n R) : IsLeast (fun a b => M (o.getD a 0) (o.getD b 0)) n R := by
  obtain ⟨g, hg⟩ := (like_ord (M := M) h).symm (anti_ord a h) a
  exact hg.least a (anti_ord a h) r

/-! ### the search for a likeness -/
/-- a beginning that keeps the ties -/
structure Part (M1 M2 : Mx) (n : Nat) (p : List Nat) : Prop where
  ord : Ord n p.length p
  ties : ∀ i j, j < i → i < p.length → M1 i j = M2 (p.getD i 0) (p.getD j 0)
def Goes (M1 M2 : Mx) (n : Nat) (p : List Nat) : Prop := ∃ f, Like M1 M2 n f ∧ ∃ r, f = p ++ r
def Fits (M1 M2 : Mx) (p : List Nat) (q : Nat) : Prop := q ∉ p ∧ ∀ j, j < p.length → M1 p.length j = M2 q (p.getD j 0)
theorem Part.nil (M1 M2 : Mx) (n : Nat) : Part M1 M2 n [] := ⟨Ord.nil n, fun i j _ h => absurd h (Nat.not_lt_zero _)⟩
theorem goes_nil {M1 M2 : Mx} {n : Nat} : Goes M1 M2 n [] ↔ Alike M1 M2 n := ⟨fun ⟨f, h, _⟩ => ⟨f, h⟩, fun ⟨f, h⟩ => ⟨f, h, f, rfl⟩⟩
theorem Part.snoc {M1 M2 : Mx} {n : Nat} {p : List Nat} {q : Nat} (h : Part M1 M2 n p) (hq : q < n) (f : Fits M1 M2 p q) : Part M1 M2 n (p ++ [q]) := by
  have o := h.ord.snoc hq f.1
  refine ⟨by rw [List.length_append, List.length_singleton]; exact o, fun i j hji hi => ?_⟩
  rw [List.length_append, List.length_singleton] at hi
  have hj : j < p.length := by omega
  have ej : (p ++ [q]).getD j 0 = p.getD j 0 := by simp [List.getElem?_append_left hj]
  rw [ej]
  by_cases e : i = p.length
  · subst e
    have ei : (p ++ [q]).getD p.length 0 = q := by simp
    rw [ei]
    exact f.2 j hj
  · have hi' : i < p.length := by omega
    have ei : (p ++ [q]).getD i 0 = p.getD i 0 := by simp [List.getElem?_append_left hi']
    rw [ei]
    exact h.ties i j hji hi'
theorem Part.full {M1 M2 : Mx} {n : Nat} {p : List Nat} (h : Part M1 M2 n p) (e : p.length = n) : Alike M1 M2 n := by
  subst e
  exact ⟨p, h.ord, h.ties⟩
theorem goes_iff {M1 M2 : Mx} {n : Nat} {p : List Nat} (hp : p.length < n) : Goes M1 M2 n p ↔ ∃ q, q < n ∧ Fits M1 M2 p q ∧ Goes M1 M2 n (p ++ [q]) := by
  constructor
  · rintro ⟨f, h, r, e⟩
    cases r with
    | nil =>
      have := h.ord.len
      rw [e, List.append_nil] at this
      omega
    | cons q r =>
      have e2 : f = (p ++ [q]) ++ r := by rw [e, List.append_assoc]; rfl
      have hlen := h.ord.len
      have gq : f.getD p.length 0 = q := by rw [e]; simp
      refine ⟨q, ?_, ⟨fun hm => ?_, fun j hj => ?_⟩, f, h, r, e2⟩
      · rw [← gq]; exact h.ord.get hp
      · have nd := h.ord.nd
        rw [e, List.nodup_append] at nd
        exact nd.2.2 q hm q List.mem_cons_self rfl
      · have := h.ties p.length j hj hp
        rw [gq] at this
        rw [this, e]
        congr 1
        simp [List.getElem?_append_left hj]
  · rintro ⟨q, _, _, f, h, r, e⟩
    exact ⟨f, h, q :: r, by rw [e, List.append_assoc]; rfl⟩
/-- the stack of beginnings: one of them goes on to a likeness exactly if there is one -/
structure Stack (M1 M2 : Mx) (n : Nat) (st : List (List Nat)) : Prop where
  parts : ∀ p ∈ st, Part M1 M2 n p
  all : Alike M1 M2 n ↔ ∃ p ∈ st, Goes M1 M2 n p
theorem Stack.start (M1 M2 : Mx) (n : Nat) : Stack M1 M2 n [[]] := by
  refine ⟨fun p hp => ?_, ⟨fun h => ⟨[], List.mem_singleton.mpr rfl, goes_nil.mpr h⟩, fun ⟨p, hp, g⟩ => ?_⟩⟩
  · rw [List.mem_singleton] at hp; subst hp; exact Part.nil M1 M2 n
  · rw [List.mem_singleton] at hp; subst hp; exact goes_nil.mp g
theorem Stack.empty {M1 M2 : Mx} {n : Nat} (h : Stack M1 M2 n []) : ¬ Alike M1 M2 n := fun a => by
  obtain ⟨p, hp, _⟩ := h.all.mp a
  cases hp
/-- the last one is taken, the fitting longer ones are put behind (news, in any order) -/
theorem Stack.turn {M1 M2 : Mx} {n : Nat} {st : List (List Nat)} {p : List Nat} (h : Stack M1 M2 n (st ++ [p])) (hp : p.length < n) (news : List (List Nat)) (hn : ∀ x, x ∈ news ↔ ∃ q, q < n ∧ Fits M1 M2 p q ∧ x = p ++ [q]) : Stack M1 M2 n (st ++ news) := by
  have hpp : Part M1 M2 n p := h.parts p (List.mem_append_right _ (List.mem_singleton.mpr rfl))
  refine ⟨fun x hx => ?_, h.all.trans ⟨fun ⟨x, hx, g⟩ => ?_, fun ⟨x, hx, g⟩ => ?_⟩⟩
  · rcases List.mem_append.mp hx with hx | hx
    · exact h.parts x (List.mem_append_left _ hx)
    · obtain ⟨q, h1, h2, rfl⟩ := (hn x).mp hx
      exact hpp.snoc h1 h2
  · rcases List.mem_append.mp hx with hx | hx
    · exact ⟨x, List.mem_append_left _ hx, g⟩
    · rw [List.mem_singleton] at hx; subst hx
      obtain ⟨q, h1, h2, g'⟩ := (goes_iff hp).mp g
      exact ⟨x ++ [q], List.mem_append_right _ ((hn _).mpr ⟨q, h1, h2, rfl⟩), g'⟩
  · rcases List.mem_append.mp hx with hx | hx
    · exact ⟨x, List.mem_append_left _ hx, g⟩
    · obtain ⟨q, h1, h2, rfl⟩ := (hn x).mp hx
      exact ⟨p, List.mem_append_right _ (List.mem_singleton.mpr rfl), (goes_iff hp).mpr ⟨q, h1, h2, g⟩⟩
/-- what the stack weighs -/
def wt (n : Nat) : Nat → Nat
  | 0 => 1
  | r + 1 => 1 + n * wt n r
def wtS (n : Nat) (st : List (List Nat)) : Nat := (st.map fun p => wt n (n - p.length)).sum
theorem wt_pos (n : Nat) : ∀ r, 1 ≤ wt n r
  | 0 => Nat.le_refl _
  | r + 1 => by unfold wt; omega
theorem wtS_append (n : Nat) (a b : List (List Nat)) : wtS n (a ++ b) = wtS n a + wtS n b := by unfold wtS; rw [List.map_append, List.sum_append]
theorem wtS_len (n : Nat) : ∀ st : List (List Nat), st.length ≤ wtS n st
  | [] => Nat.le_refl _
  | p :: r => by
    have h1 := wt_pos n (n - p.length)
    have h2 := wtS_len n r
    unfold wtS at *
    rw [List.map_cons, List.sum_cons, List.length_cons]; omega
theorem wtS_same (n k : Nat) : ∀ l : List (List Nat), (∀ x ∈ l, x.length = k) → wtS n l = l.length * wt n (n - k)
  | [], _ => by simp [wtS]
  | p :: r, h => by
    have h1 := h p List.mem_cons_self
    have h2 := wtS_same n k r fun x hx => h x (List.mem_cons_of_mem _ hx)
    unfold wtS at *
    rw [List.map_cons, List.sum_cons, List.length_cons, h1, h2, Nat.succ_mul]; omega
theorem wtS_turn {n : Nat} {st news : List (List Nat)} {p : List Nat} (hp : p.length < n) (hl : news.length ≤ n) (hn : ∀ x ∈ news, x.length = p.length + 1) : wtS n (st ++ news) < wtS n (st ++ [p]) := by
  rw [wtS_append, wtS_append, wtS_same n (p.length + 1) news hn]
  have e : wtS n [p] = wt n (n - p.length) := by unfold wtS; simp
  rw [e]
  obtain ⟨r, hr⟩ : ∃ r, n - p.length = r + 1 := ⟨n - p.length - 1, by omega⟩
  have hr' : n - (p.length + 1) = r := by omega
  rw [hr, hr']
  show _ < _ + (1 + n * wt n r)
  have := Nat.mul_le_mul_right (wt n r) hl
  omega
theorem wt7 : ∀ n r, n ≤ 7 → r ≤ 7 → wt n r ≤ 1000000 := by
  intro n r hn hr
  have : ∀ n, n < 8 → ∀ r, r < 8 → wt n r ≤ 1000000 := by decide
  exact this n (by omega) r (by omega)
end K7

namespace K7
open PySem L2
/-! ### the text by places -/
def topS (i : Nat) : Stmt := PySem.Challenge.pw_joinedguests_k07_whole_least_forms_of_co.main.body.getD i (.Pass ⟨0, 0, 0, 0⟩)
abbrev sIsWhole : Stmt := topS 10
abbrev sIsLabel : Stmt := topS 11
abbrev sTies : Stmt := inClass (topS 12) 0
abbrev sRowWord : Stmt := topS 15
abbrev sCheck : Stmt := topS 16
abbrev sCompany : Stmt := inClass (topS 17) 0
abbrev sTieAt : Stmt := inClass (topS 17) 2
abbrev sCLen : Stmt := inClass (topS 17) 10
abbrev sCEq : Stmt := inClass (topS 17) 12
abbrev sLimit : Stmt := topS 20
abbrev sFits : Stmt := topS 21
abbrev sLikenesses : Stmt := topS 22
abbrev sAreAlike : Stmt := topS 23
abbrev sRowBehind : Stmt := topS 24
abbrev sLeastStep : Stmt := topS 25
abbrev sLeastForm : Stmt := topS 26
abbrev sSays : Stmt := topS 28
abbrev sMix : Stmt := topS 29
abbrev sHand : Stmt := topS 30
abbrev sDraw : Stmt := topS 31
abbrev sBacks : Stmt := topS 32
abbrev sLabels : Stmt := topS 33
abbrev sPart : Stmt := topS 34
abbrev sRows : Stmt := topS 35
abbrev sLCompany : Stmt := topS 36
abbrev sShuffled : Stmt := topS 37
abbrev sTableOf : Stmt := topS 38
abbrev sOrders : Stmt := topS 39
abbrev sTuples : Stmt := topS 40
abbrev sLeast : Stmt := topS 41
abbrev sRefused : Stmt := topS 42
abbrev sLarger : Stmt := topS 43
abbrev sLaw : Stmt := topS 44

/-! ### what the module's names hold -/
structure Blt (mg : Str → Option Value) : Prop where
  isinstance : mg "isinstance" = none
  int : mg "int" = none
  bool : mg "bool" = none
  list : mg "list" = none
  tuple : mg "tuple" = none
  len : mg "len" = none
  range : mg "range" = none
  reversed : mg "reversed" = none
  min : mg "min" = none
  max : mg "max" = none
  abs : mg "abs" = none
  enumerate : mg "enumerate" = none
structure Cst (mg : Str → Option Value) : Prop where
  ties : ∃ t, mg "MOST_TIES" = some (.int 4 t)
  label : ∃ t, mg "MOST_LABEL" = some (.int 1000000000 t)
  guests : ∃ t, mg "MOST_GUESTS" = some (.int 60 t)
  like : ∃ t, mg "MOST_LIKE" = some (.int 7 t)

/-- a def that the module's name x holds and that keeps a promise -/
structure Cal (P : Program) (w : World) (K : PySem.W.Frag) (mg : Str → Option Value) (base : Heap) (CX : CXT) (k : Nat) (x : Str) (ps : List Str) (sp : Sp) : Prop where
  ex : ∃ (f : Addr) (fd : FuncData), FnOk P w K mg base CX k f fd ps sp ∧ mg x = some (.ref f) ∧ PySem.W.keepIn K (.ref f) = true ∧ Binds K fd ps []
section
variable {X : Cx} {CX : CXT} {k j : Nat} {ps : List Str} {sp : Sp} {E : XK} {x : Str} {p pos : Pos} {e : Expr} {es : List Expr} {t : TA}
theorem pe_cal (c : Cal X.prog X.w X.K X.mg X.base CX k x ps sp) (hr : Room j X.A) (hx : Passes CX X E) (ha : PA X (e :: es) t) (hj : k ≤ j := by decide) (hg : Gl X x := by rfl) (hdb : (x == ("__debug__" : Str)) = false := by decide)
    (he : starEach (e :: es) X.env = (false, eval e X.env) :: starEach es X.env := by rfl) (hpl : (backTo pos (starEach es X.env)).any (·.1) = false := by rfl) : PE X (.Call (.Name x p) (e :: es) [] pos) (tCall sp [] E t) := by
  obtain ⟨f, fd, F, hm, hk, hb⟩ := c.ex
  exact pe_call F (hr.mono hj) hg hm hk hb .nil hx ha hdb he hpl
/-- len(e), isinstance(..): a built-in function of the boot -/
theorem pe_b {id : String} {r : List V → Hp → VK → Prop} (hc : CallR X (.builtin id) r) (hm : X.mg x = none) (hv : bootBuiltins x = some (.builtin id)) (ha : PA X (e :: es) t) (hg : Gl X x := by rfl) (hn : x ≠ "__name__" := by decide) (hdb : (x == ("__debug__" : Str)) = false := by decide)
    (he : starEach (e :: es) X.env = (false, eval e X.env) :: starEach es X.env := by rfl) (hpl : (backTo pos (starEach es X.env)).any (·.1) = false := by rfl) : PE X (.Call (.Name x p) (e :: es) [] pos) (tCB r t) :=
  pe_callB hc hg hm hv ha hn hdb he hpl
theorem pe_t {T : String} {r : List V → Hp → VK → Prop} (hc : CallR X (.type T) r) (hm : X.mg x = none) (hv : bootBuiltins x = some (.type T)) (ha : PA X (e :: es) t) (hg : Gl X x := by rfl) (hn : x ≠ "__name__" := by decide) (hdb : (x == ("__debug__" : Str)) = false := by decide)
    (he : starEach (e :: es) X.env = (false, eval e X.env) :: starEach es X.env := by rfl) (hpl : (backTo pos (starEach es X.env)).any (·.1) = false := by rfl) : PE X (.Call (.Name x p) (e :: es) [] pos) (tCB r t) :=
  pe_callTy hc hg hm hv ha hn hdb he hpl
end

section
variable {P : Program} {w : World} {K : PySem.W.Frag} {mg : Str → Option Value} {base : Heap}
/-! ### is_whole, is_label -/
def spWhole : Sp := fun vs H Q _ => ∃ i lo hi : Int, vs = [.int i, .int lo, .int hi] ∧ Q (.bl (decide (lo ≤ i) && decide (i ≤ hi))) H
theorem scIsWhole : FnScope ["thing", "low", "high"] ["thing", "low", "high"] (defScope sIsWhole) := ⟨rfl, rfl, rfl, by decide +kernel, rfl, by decide +kernel, by decide +kernel⟩
theorem ok_whole {f : Addr} {fd : FuncData} (F : Fun K "is_whole" "is_whole" sIsWhole f fd) (B : Blt mg) : FnOk P w K mg base CX0 1 f fd ["thing", "low", "high"] spWhole := by
  refine F.ok scIsWhole (fun vs H Q E h => ?_) (fun cdv A outer s H vs Q E hr h => ?_)
  · obtain ⟨i, lo, hi, rfl, _⟩ := h
    rfl
  · obtain ⟨i, lo, hi, rfl, k⟩ := h
    refine ⟨_, pss_one (ps_ret (pe_and (pe_b call_isi B.isinstance PyProof.Rows.boot_isinstance (pa_cons (pv 0) (pa_cons (pe_bltn (v := .ty "int") (by rfl) B.int PyProof.Rows.boot_int rfl) pa_nil)))
      (pe_and (pe_not (pe_b call_isi B.isinstance PyProof.Rows.boot_isinstance (pa_cons (pv 0) (pa_cons (pe_bltn (v := .ty "bool") (by rfl) B.bool PyProof.Rows.boot_bool rfl) pa_nil))))
        (pe_one (pe_chain op_le op_le (pv 1) (pv 0) (pv 2)))))), ?_⟩
    refine ⟨_, rfl, _, _, _, _, true, rfl, .ty _, .base (.int _), kit_ty (by decide +kernel), _, rfl, iteT ?_⟩
    refine ⟨_, rfl, _, _, _, _, false, rfl, .ty _, .base (.int _), kit_ty (by decide +kernel), _, rfl, _, rfl, iteT ?_⟩
    refine ⟨_, rfl, _, rfl, _, _, rfl, rfl, _, rfl, ?_⟩
    by_cases h1 : lo ≤ i
    · rw [decide_eq_true h1] at k ⊢
      exact iteT ⟨_, rfl, _, _, rfl, rfl, by simpa using k⟩
    · rw [decide_eq_false h1] at k ⊢
      exact iteF (by simpa using k)
def spLabel : Sp := fun vs H Q _ => ∃ i : Int, vs = [.int i] ∧ Q (.bl (decide (0 ≤ i) && decide (i ≤ 1000000000))) H
theorem scIsLabel : FnScope ["thing"] ["thing"] (defScope sIsLabel) := ⟨rfl, rfl, rfl, by decide +kernel, rfl, by decide +kernel, by decide +kernel⟩
theorem ok_label {f : Addr} {fd : FuncData} (F : Fun K "is_label" "is_label" sIsLabel f fd) (B : Blt mg) (C : Cst mg) (c : Cal P w K mg base CX0 1 "is_whole" ["thing", "low", "high"] spWhole) : FnOk P w K mg base CX0 2 f fd ["thing"] spLabel := by
  refine F.ok scIsLabel (fun vs H Q E h => ?_) (fun cdv A outer s H vs Q E hr h => ?_)
  · obtain ⟨i, rfl, _⟩ := h
    rfl
  · obtain ⟨i, rfl, k⟩ := h
    obtain ⟨t, mgL⟩ := C.label
    refine ⟨_, pss_one (ps_ret (pe_cal c hr pass0 (pa_cons (pv 0) (pa_cons pe_int (pa_cons (pe_glob (v := .int 1000000000) (by rfl) mgL ⟨_, rfl⟩) pa_nil))))), ?_⟩
    exact ⟨_, rfl, i, 0, 1000000000, rfl, k⟩
end
end K7

namespace K7
open PySem L2
/-! ### heaps -/
theorem Same.new {H H' : Hp} {q : Addr} {o : HO} (s : Same H H') (h : H' q = none) : Same H (upd H' q o) := fun a u e => by
  rw [upd_ne (ne_of_none (s _ _ e) h)]
  exact s _ _ e
theorem Same.upd_new {H : Hp} {q : Addr} {o : HO} (h : H q = none) : Same H (upd H q o) := Same.new (Same.refl H) h
/-- all but p is as it was -/
def But (p : Addr) (H H' : Hp) : Prop := ∀ a o, a ≠ p → H a = some o → H' a = some o
theorem But.refl (p : Addr) (H : Hp) : But p H H := fun _ _ _ h => h
theorem But.trans {p : Addr} {H H1 H2 : Hp} (a : But p H H1) (b : But p H1 H2) : But p H H2 := fun c o n h => b c o n (a c o n h)
theorem But.of {p : Addr} {H H' : Hp} (s : Same H H') : But p H H' := fun a o _ h => s a o h
theorem But.new {p : Addr} {H H' : Hp} {q : Addr} {o : HO} (s : But p H H') (h : H' q = none) : But p H (upd H' q o) := fun a u n e => by
  rw [upd_ne (ne_of_none (s _ _ n e) h)]
  exact s _ _ n e
theorem But.put {p : Addr} {H H' : Hp} {o : HO} (s : But p H H') : But p H (upd H' p o) := fun a u n e => by
  rw [upd_ne n]
  exact s _ _ n e
/-- what was not there before -/
theorem But.free {p : Addr} {H H' : Hp} (s : But p H H') (hp : H p = none) : Same H H' := fun a o e => s a o (ne_of_none e hp) e

/-! ### lists of numbers as values -/
abbrev vI (ns : List Int) : List V := ns.map V.int
abbrev iN (o : List Nat) : List Int := o.map fun k : Nat => (k : Int)
theorem vI_len (ns : List Int) : (vI ns).length = ns.length := List.length_map _
theorem vI_get {ns : List Int} {i : Nat} {v : V} (h : (vI ns)[i]? = some v) : ∃ k, ns[i]? = some k ∧ v = .int k := by
  rw [List.getElem?_map] at h
  cases e : ns[i]? with
  | none => rw [e] at h; cases h
  | some k => rw [e] at h; exact ⟨k, rfl, (Option.some.inj h).symm⟩
theorem getD_of {α : Type} {l : List α} {i : Nat} {d a : α} (h : l[i]? = some a) : l.getD i d = a := by simp [h]
theorem get_of {α : Type} {l : List α} {i : Nat} (d : α) (h : i < l.length) : l[i]? = some (l.getD i d) := by simp [h]
theorem vI_at {ns : List Int} {i : Nat} (h : i < ns.length) : (vI ns)[i]? = some (.int (ns.getD i 0)) := by
  rw [List.getElem?_map, get_of 0 h]; rfl
/-- an item at a place that an int tells -/
theorem at_int {ns : List Int} {z : Int} (h0 : 0 ≤ z) (h1 : z < (ns.length : Int)) : atI (vI ns) z = some (.int (ns.getD z.toNat 0)) :=
  at_of (j := z.toNat) (by omega) (vI_at (by omega))
theorem size_of {n : Nat} (h : n ≤ 1000000) : n ≤ sizeLine := Nat.le_trans h (by decide)
theorem size_lt {n : Nat} (h : n ≤ 1000000) : n < sizeLine := Nat.lt_of_le_of_lt h (by decide)

/-! ### backs -/
structure BkOk (bk : List Int) : Prop where
  lo : 2 ≤ bk.length
  hi : bk.length ≤ 4
  rg : ∀ i, i < bk.length → 0 ≤ bk.getD i 0 ∧ bk.getD i 0 < (bk.length : Int)
  inv : ∀ i, i < bk.length → bk.getD (bk.getD i 0).toNat 0 = (i : Int)
/-- the back of a tie -/
def bkf (bk : List Int) (t : Int) : Int := bk.getD t.toNat 0
theorem BkOk.back {bk : List Int} (h : BkOk bk) {t : Int} (h0 : 0 ≤ t) (h1 : t < (bk.length : Int)) : 0 ≤ bkf bk t ∧ bkf bk t < (bk.length : Int) := h.rg t.toNat (by omega)
theorem BkOk.bb {bk : List Int} (h : BkOk bk) {t : Int} (h0 : 0 ≤ t) (h1 : t < (bk.length : Int)) : bkf bk (bkf bk t) = t := by
  have := h.inv t.toNat (by omega)
  unfold bkf
  rw [this]; omega

/-! ### fields -/
theorem ne_str {a b : Str} (h : decide (a = b) = false) : ¬ a = b := of_decide_eq_false h
def tfs (t : Addr) (n : Int) : List (Str × V) := [("backs", .ref t), ("many", .int n)]
theorem tfs_eq (t : Addr) (n : Int) : putF "many" (.int n) (putF "backs" (.ref t) []) = tfs t n := by
  show (if ("backs" : Str) = "many" then _ else (("backs" : Str), V.ref t) :: putF "many" (V.int n) []) = _
  rw [if_neg (by decide +kernel)]
  rfl
theorem tfs_backs (t : Addr) (n : Int) : (tfs t n).lookup ("backs" : Str) = some (.ref t) := by
  rw [← tfs_eq, lookup_putF, if_neg (by decide +kernel), lookup_putF, if_pos rfl]
theorem tfs_many (t : Addr) (n : Int) : (tfs t n).lookup ("many" : Str) = some (.int n) := by
  rw [← tfs_eq, lookup_putF, if_pos rfl]
def cfs (t g r : Addr) : List (Str × V) := [("ties", .ref t), ("guests", .ref g), ("rows", .ref r)]
theorem cfs_eq (t g r : Addr) : putF "rows" (.ref r) (putF "guests" (.ref g) (putF "ties" (.ref t) [])) = cfs t g r := by
  have e1 : putF "guests" (.ref g) (putF "ties" (.ref t) []) = ([(("ties" : Str), V.ref t), ("guests", V.ref g)] : List (Str × V)) := by
    show (if ("ties" : Str) = "guests" then _ else (("ties" : Str), V.ref t) :: putF "guests" (V.ref g) []) = _
    rw [if_neg (by decide +kernel)]
    rfl
  rw [e1]
  show (if ("ties" : Str) = "rows" then _ else (("ties" : Str), V.ref t) :: (if ("guests" : Str) = "rows" then _ else (("guests" : Str), V.ref g) :: putF "rows" (V.ref r) [])) = _
  rw [if_neg (by decide +kernel), if_neg (by decide +kernel)]
  rfl
theorem cfs_ties (t g r : Addr) : (cfs t g r).lookup ("ties" : Str) = some (.ref t) := by
  rw [← cfs_eq, lookup_putF, if_neg (by decide +kernel), lookup_putF, if_neg (by decide +kernel), lookup_putF, if_pos rfl]
theorem cfs_guests (t g r : Addr) : (cfs t g r).lookup ("guests" : Str) = some (.ref g) := by
  rw [← cfs_eq, lookup_putF, if_neg (by decide +kernel), lookup_putF, if_pos rfl]
theorem cfs_rows (t g r : Addr) : (cfs t g r).lookup ("rows" : Str) = some (.ref r) := by
  rw [← cfs_eq, lookup_putF, if_pos rfl]
theorem cfs_no (t g r : Addr) {m : Str} (h1 : ¬ m = "ties") (h2 : ¬ m = "guests") (h3 : ¬ m = "rows") : (cfs t g r).lookup m = none := by
  rw [← cfs_eq, lookup_putF, if_neg h3, lookup_putF, if_neg h2, lookup_putF, if_neg h1]
  rfl

/-! ### what the classes are -/
structure TxT (K : PySem.W.Frag) (mg : Str → Option Value) (CT : Addr) : Prop where
  cl : Cls K CT
  nB : NoAttr K CT "backs"
  nM : NoAttr K CT "many"
  mgT : mg "Ties" = some (.ref CT)
structure TxC (K : PySem.W.Frag) (mg : Str → Option Value) (C : Addr) : Prop where
  cl : Cls K C
  nT : NoAttr K C "ties"
  nG : NoAttr K C "guests"
  nR : NoAttr K C "rows"
  mgC : mg "Company" = some (.ref C)
/-- ties at p -/
def TiesAt (CT : Addr) (H : Hp) (p : Addr) (bk : List Int) : Prop := ∃ dx t, H p = some (.ins CT dx (tfs t bk.length)) ∧ H t = some (.tup (vI bk))
theorem TiesAt.same {CT : Addr} {H H' : Hp} {p : Addr} {bk : List Int} (h : TiesAt CT H p bk) (s : Same H H') : TiesAt CT H' p bk := by
  obtain ⟨dx, t, h1, h2⟩ := h
  exact ⟨dx, t, s _ _ h1, s _ _ h2⟩

section
variable {P : Program} {w : World} {K : PySem.W.Frag} {mg : Str → Option Value} {base : Heap}
/-! ### Ties(..) -/
def spTies (CT : Addr) : Sp := fun vs H Q _ => ∃ (p dx b : Addr) (bk : List Int), vs = [.ref p, .ref b] ∧ H p = some (.ins CT dx []) ∧ H b = some (.lst (vI bk)) ∧ BkOk bk ∧ ∀ H', But p H H' → TiesAt CT H' p bk → Q .non H'
theorem scTies : FnScope ["self", "backs", "entry", "place"] ["self", "backs"] (defScope sTies) := ⟨rfl, rfl, rfl, by decide +kernel, rfl, by decide +kernel, by decide +kernel⟩
theorem ok_ties {f CT : Addr} {fd : FuncData} (F : Fun K "__init__" "Ties.__init__" sTies f fd) (T : TxT K mg CT) (B : Blt mg) (C : Cst mg) (c : Cal P w K mg base CX0 1 "is_whole" ["thing", "low", "high"] spWhole) : FnOk P w K mg base CX0 2 f fd ["self", "backs"] (spTies CT) := by
  refine F.ok scTies (fun vs H Q E h => ?_) (fun cdv A outer s H vs Q E hr h => ?_)
  · obtain ⟨p, dx, b, bk, rfl, _⟩ := h
    rfl
  · obtain ⟨p, dx, b, bk, rfl, hp, hb, ok, k⟩ := h
    obtain ⟨t4, mg4⟩ := C.ties
    have npb : b ≠ p := ne_of hb hp (by intro q; cases q)
    refine ⟨_, pss_cons (ps_if (pt_not (pt_val (pe_b call_isiT B.isinstance PyProof.Rows.boot_isinstance (pa_cons (pv 1) (pa_cons (pe_tup (pa_cons (pe_bltn (v := .ty "list") (by rfl) B.list PyProof.Rows.boot_list rfl) (pa_cons (pe_bltn (v := .ty "tuple") (by rfl) B.tuple PyProof.Rows.boot_tuple rfl) pa_nil))) pa_nil))))) pss_never pss_nil)
      (pss_cons (ps_if (pt_not (pt_chain op_le op_le pe_int (pe_b call_len_seq B.len PySem.boot_len (pa_cons (pv 1) pa_nil)) (pe_glob (v := .int 4) (by rfl) mg4 ⟨_, rfl⟩))) pss_never pss_nil)
      (pss_cons (ps_for PassesOwn.never rfl (pi_list (pv 1)) (pg_name (i := 2) scTies.nd rfl (Or.inl rfl))
        (pss_one (ps_if (pt_not (pt_val (pe_cal c hr pass0 (pa_cons (pv 2) (pa_cons pe_int (pa_cons (pe_op op_sub (pe_b call_len_seq B.len PySem.boot_len (pa_cons (pv 1) pa_nil)) pe_int) pa_nil)))))) pss_never pss_nil)))
      (pss_cons (ps_for PassesOwn.never rfl (pi_range1 rfl B.range (pa_cons (pe_b call_len_seq B.len PySem.boot_len (pa_cons (pv 1) pa_nil)) pa_nil)) (pg_name (i := 3) scTies.nd rfl (Or.inl rfl))
        (pss_one (ps_if (pt_cmpR op_ne (pe_ix ix_list (pv 1) (pe_ix ix_list (pv 1) (pv 3) (fun _ _ => rfl)) (fun _ _ => rfl)) (pv 3) (nomark _)) pss_never pss_nil)))
      (pss_cons (ps_fld (pv 0) (pe_t call_tuple_of B.tuple PyProof.Rows.boot_tuple (pa_cons (pv 1) pa_nil)) rfl)
      (pss_one (ps_fld (pv 0) (pe_b call_len_seq B.len PySem.boot_len (pa_cons (pv 1) pa_nil)) rfl)))))), ?_⟩
    -- if not isinstance(backs, (list, tuple))
    refine ⟨_, rfl, by show 2 ≤ sizeLine; decide, fun u hu => ?_⟩
    have S1 : Same H (upd H u (.tup [.ty "list", .ty "tuple"])) := Same.upd_new hu
    refine ⟨_, _, _, _, _, true, rfl, upd_same, .cons (.ty _) (.cons (.ty _) .nil), .base (.lst (S1 _ _ hb)), kitAny_cons (b := true) (kit_ty (by decide +kernel)) (fun q => by cases q) (fun _ => rfl), _, rfl, iteF ?_⟩
    have hb1 := S1 _ _ hb
    -- if not 2 <= len(backs) <= MOST_TIES
    refine ⟨_, rfl, _, _, rfl, .inl (SqL.of hb1), _, _, rfl, rfl, _, rfl, ?_⟩
    rw [vI_len]
    have h2 : decide ((2 : Int) ≤ (bk.length : Int)) = true := decide_eq_true (by have := ok.lo; omega)
    have h4 : decide ((bk.length : Int) ≤ 4) = true := decide_eq_true (by have := ok.hi; omega)
    rw [h2]
    refine iteT ⟨_, _, rfl, rfl, _, rfl, ?_⟩
    rw [h4]
    refine iteF ?_
    -- for entry in backs
    refine ⟨_, rfl, b, rfl, ⟨_, SqL.of hb1⟩, for_list (K := K) (a := b) (xs := vI bk) (fun i σ H' => (∃ v, σ = [some (.ref p), some (.ref b), v, none]) ∧ But p H H' ∧ H' p = some (.ins CT dx []) ∧ H' b = some (.lst (vI bk))) ⟨⟨_, rfl⟩, But.of S1, S1 _ _ hp, hb1⟩ (fun i σ H' _ q => SqL.of q.2.2.2) ?_ ?_⟩
    · rintro i x σ H' hi ⟨⟨v, rfl⟩, s1, p1, b1⟩
      obtain ⟨e, he, rfl⟩ := vI_get hi
      have hil : i < bk.length := (List.getElem?_eq_some_iff.mp he).1
      refine ⟨_, rfl, _, rfl, _, _, rfl, .inl (SqL.of b1), _, _, rfl, rfl, e, 0, _, rfl, _, rfl, ?_⟩
      rw [vI_len]
      have r := ok.rg i hil
      rw [getD_of he] at r
      have r1 : decide (0 ≤ e) = true := decide_eq_true r.1
      have r2 : decide (e ≤ (bk.length : Int) - 1) = true := decide_eq_true (by have := r.2; omega)
      rw [r1, r2]
      exact iteF ⟨⟨_, rfl⟩, s1, p1, b1⟩
    · rintro σ H' ⟨⟨v, rfl⟩, s1, p1, b1⟩
      -- for place in range(len(backs))
      refine ⟨_, rfl, _, _, rfl, .inl (SqL.of b1), _, rfl, by omega, by rw [vI_len]; have := ok.hi; omega, for_range (n := ((vI bk).length : Int).toNat) (fun i σ H' => (∃ v1 v2, σ = [some (.ref p), some (.ref b), v1, v2]) ∧ But p H H' ∧ H' p = some (.ins CT dx []) ∧ H' b = some (.lst (vI bk))) ⟨⟨_, _, rfl⟩, s1, p1, b1⟩ ?_ ?_⟩
      · rintro i σ H' hi ⟨⟨v1, v2, rfl⟩, s1, p1, b1⟩
        have hil : i < bk.length := by rw [vI_len] at hi; omega
        have r := ok.rg i hil
        refine ⟨_, rfl, _, rfl, _, rfl, _, _, _, _, rfl, rfl, SqL.of b1, at_of (j := i) (by omega) (vI_at hil), _, _, _, _, rfl, rfl, SqL.of b1, at_int r.1 r.2, _, rfl, rfl, _, rfl, ?_⟩
        have e : bk.getD (bk.getD i 0).toNat 0 = (0 : Int) + (i : Int) := by rw [ok.inv i hil]; omega
        rw [e, decide_eq_true rfl]
        exact iteF ⟨⟨_, _, rfl⟩, s1, p1, b1⟩
      · rintro σ H' ⟨⟨v1, v2, rfl⟩, s1, p1, b1⟩
        -- self.backs = tuple(backs)
        refine ⟨_, rfl, _, _, rfl, .inl ⟨SqL.of b1, fun t ht => ?_⟩⟩
        have n1 : p ≠ t := ne_of_none p1 ht
        have n2 : b ≠ t := ne_of_none b1 ht
        refine ⟨_, rfl, p, CT, dx, _, rfl, by rw [upd_ne n1]; exact p1, T.cl, T.nB, by show 0 < 1000; decide, ?_⟩
        -- self.many = len(backs)
        refine ⟨_, rfl, _, _, rfl, .inl (SqL.of (xs := vI bk) (by rw [upd_ne npb, upd_ne n2]; exact b1)), ?_⟩
        refine ⟨_, rfl, p, CT, dx, _, rfl, upd_same, T.cl, T.nM, by show 1 < 1000; decide, ?_⟩
        refine k _ ((s1.new ht).put.put) ⟨dx, t, ?_, ?_⟩
        · rw [upd_same, tfs_eq, vI_len]
        · rw [upd_ne n1.symm, upd_ne n1.symm, upd_same]
end
end K7

namespace K7
open PySem L2
/-! ### rows of numbers -/
theorem Same.put {H H' : Hp} {D : Addr} {o : HO} (s : Same H H') (h : H D = none) : Same H (upd H' D o) := fun a u e => by
  rw [upd_ne (ne_of_none e h)]
  exact s _ _ e
abbrev RK := Hp → Addr → List Int → Prop
def lI : RK := fun H b r => H b = some (.lst (vI r))
def tI : RK := fun H b r => H b = some (.tup (vI r))
def sI : RK := fun H b r => lI H b r ∨ tI H b r
/-- such rows stand at the addresses -/
structure Rws (S : RK) (H : Hp) (as : List Addr) (R : List (List Int)) : Prop where
  len : as.length = R.length
  at_ : ∀ (i : Nat) (b : Addr) (r : List Int), as[i]? = some b → R[i]? = some r → S H b r
theorem Rws.nil {S : RK} {H : Hp} : Rws S H [] [] := ⟨rfl, fun i b r h => by simp at h⟩
theorem Rws.imp {S S' : RK} {H H' : Hp} {as : List Addr} {R : List (List Int)} (h : Rws S H as R) (f : ∀ b r, b ∈ as → S H b r → S' H' b r) : Rws S' H' as R := ⟨h.len, fun i b r h1 h2 => f b r (List.mem_of_getElem? h1) (h.at_ i b r h1 h2)⟩
theorem Rws.same {S : RK} {H H' : Hp} {as : List Addr} {R : List (List Int)} (h : Rws S H as R) (f : ∀ b r, S H b r → S H' b r) : Rws S H' as R := h.imp fun b r _ => f b r
theorem Rws.snoc {S : RK} {H : Hp} {as : List Addr} {R : List (List Int)} {b : Addr} {r : List Int} (h : Rws S H as R) (q : S H b r) : Rws S H (as ++ [b]) (R ++ [r]) := by
  refine ⟨by rw [List.length_append, List.length_append, h.len]; rfl, fun i c s h1 h2 => ?_⟩
  by_cases hi : i < as.length
  · rw [List.getElem?_append_left hi] at h1
    rw [List.getElem?_append_left (by rw [← h.len]; exact hi)] at h2
    exact h.at_ i c s h1 h2
  · have hi' : i = as.length := by
      have := (List.getElem?_eq_some_iff.mp h1).1
      rw [List.length_append, List.length_singleton] at this
      omega
    subst hi'
    have e1 : (as ++ [b])[as.length]? = some b := by simp
    have e2 : (R ++ [r])[as.length]? = some r := by rw [h.len]; simp
    rw [e1] at h1
    rw [e2] at h2
    cases h1; cases h2
    exact q
theorem Rws.get {S : RK} {H : Hp} {as : List Addr} {R : List (List Int)} (h : Rws S H as R) {i : Nat} (hi : i < R.length) : ∃ b, as[i]? = some b ∧ S H b (R.getD i []) := by
  have hi' : i < as.length := by rw [h.len]; exact hi
  exact ⟨as[i], by simp [hi'], h.at_ i _ _ (by simp [hi']) (get_of [] hi)⟩
theorem lI_same {H H' : Hp} (s : Same H H') : ∀ b r, lI H b r → lI H' b r := fun b r h => s _ _ h
theorem tI_same {H H' : Hp} (s : Same H H') : ∀ b r, tI H b r → tI H' b r := fun b r h => s _ _ h
theorem sI_same {H H' : Hp} (s : Same H H') : ∀ b r, sI H b r → sI H' b r := fun b r h => h.imp (s _ _) (s _ _)
/-- rows that are tuples outlast a list's change -/
theorem tI_put {H : Hp} {D : Addr} {xs : List V} {o : HO} (h : H D = some (.lst xs)) : ∀ b r, tI H b r → tI (upd H D o) b r := fun b r q => by
  have n : b ≠ D := ne_of q h (by intro z; cases z)
  show upd H D o b = _
  rw [upd_ne n]; exact q
abbrev vR (as : List Addr) : List V := as.map V.ref
theorem vR_len (as : List Addr) : (vR as).length = as.length := List.length_map _
theorem vR_get {as : List Addr} {i : Nat} {v : V} (h : (vR as)[i]? = some v) : ∃ b, as[i]? = some b ∧ v = .ref b := by
  rw [List.getElem?_map] at h
  cases e : as[i]? with
  | none => rw [e] at h; cases h
  | some k => rw [e] at h; exact ⟨k, rfl, (Option.some.inj h).symm⟩
theorem vR_at {as : List Addr} {i : Nat} {b : Addr} (h : as[i]? = some b) : (vR as)[i]? = some (.ref b) := by
  rw [List.getElem?_map, h]; rfl
theorem vR_snoc (as : List Addr) (b : Addr) : vR as ++ [V.ref b] = vR (as ++ [b]) := by rw [vR, vR, List.map_append]; rfl
theorem vI_snoc (ns : List Int) (k : Int) : vI ns ++ [V.int k] = vI (ns ++ [k]) := by rw [vI, vI, List.map_append]; rfl
theorem take_snoc {α : Type} {l : List α} {i : Nat} {a : α} (h : l[i]? = some a) : l.take (i + 1) = l.take i ++ [a] := by
  rw [List.take_add_one, h]; rfl

structure RowsOk (bk : List Int) (R : List (List Int)) : Prop where
  len : ∀ j, j < R.length → (R.getD j []).length = j
  rg : ∀ j, j < R.length → ∀ t ∈ R.getD j [], 0 ≤ t ∧ t < (bk.length : Int)
structure LabOk (g : List Int) : Prop where
  rg : ∀ i, i < g.length → 0 ≤ g.getD i 0 ∧ g.getD i 0 ≤ 1000000000
  asc : ∀ i, i + 1 < g.length → g.getD i 0 < g.getD (i + 1) 0
/-- a company at p -/
def CompAt (C CT : Addr) (H : Hp) (p : Addr) (bk g : List Int) (R : List (List Int)) : Prop :=
  ∃ dx tt gt rt rs, H p = some (.ins C dx (cfs tt gt rt)) ∧ TiesAt CT H tt bk ∧ H gt = some (.tup (vI g)) ∧ H rt = some (.tup (vR rs)) ∧ Rws tI H rs R
theorem CompAt.same {C CT : Addr} {H H' : Hp} {p : Addr} {bk g : List Int} {R : List (List Int)} (h : CompAt C CT H p bk g R) (s : Same H H') : CompAt C CT H' p bk g R := by
  obtain ⟨dx, tt, gt, rt, rs, h1, h2, h3, h4, h5⟩ := h
  exact ⟨dx, tt, gt, rt, rs, s _ _ h1, h2.same s, s _ _ h3, s _ _ h4, h5.same (tI_same s)⟩

section
variable {P : Program} {w : World} {K : PySem.W.Frag} {mg : Str → Option Value} {base : Heap}
/-! ### _row_word -/
def spRowWord (CT : Addr) : Sp := fun vs H Q _ => ∃ (tp b : Addr) (bk r : List Int) (n : Nat), vs = [.ref tp, .ref b, .int n] ∧ TiesAt CT H tp bk ∧ sI H b r ∧ r.length = n ∧ (∀ t ∈ r, 0 ≤ t ∧ t < (bk.length : Int)) ∧ ∀ H', Same H H' → Q .non H'
theorem scRowWord : FnScope ["ties", "row", "length", "entry"] ["ties", "row", "length"] (defScope sRowWord) := ⟨rfl, rfl, rfl, by decide +kernel, rfl, by decide +kernel, by decide +kernel⟩
theorem ok_rowWord {f CT : Addr} {fd : FuncData} (F : Fun K "_row_word" "_row_word" sRowWord f fd) (T : TxT K mg CT) (B : Blt mg) (c : Cal P w K mg base CX0 1 "is_whole" ["thing", "low", "high"] spWhole) : FnOk P w K mg base CX0 2 f fd ["ties", "row", "length"] (spRowWord CT) := by
  refine F.ok scRowWord (fun vs H Q E h => ?_) (fun cdv A outer s H vs Q E hr h => ?_)
  · obtain ⟨tp, b, bk, r, n, rfl, _⟩ := h
    rfl
  · obtain ⟨tp, b, bk, r, n, rfl, hT, hb, hlen, hrg, k⟩ := h
    rcases hb with hb | hb
    · refine ⟨_, pss_cons (ps_if (pt_not (pt_val (pe_b call_isiT B.isinstance PyProof.Rows.boot_isinstance (pa_cons (pv 1) (pa_cons (pe_tup (pa_cons (pe_bltn (v := .ty "list") (by rfl) B.list PyProof.Rows.boot_list rfl) (pa_cons (pe_bltn (v := .ty "tuple") (by rfl) B.tuple PyProof.Rows.boot_tuple rfl) pa_nil))) pa_nil))))) pss_never pss_nil)
        (pss_cons (ps_if (pt_cmpR op_ne (pe_b call_len_seq B.len PySem.boot_len (pa_cons (pv 1) pa_nil)) (pv 2) (nomark _)) pss_never pss_nil)
        (pss_cons (ps_for PassesOwn.never rfl (pi_list (pv 1)) (pg_name (i := 3) scRowWord.nd rfl (Or.inl rfl))
          (pss_one (ps_if (pt_not (pt_val (pe_cal c hr pass0 (pa_cons (pv 3) (pa_cons pe_int (pa_cons (pe_op op_sub (pe_fld (pv 0) rfl) pe_int) pa_nil)))))) pss_never pss_nil)))
        (pss_one (ps_ret pe_non)))), ?_⟩
      refine ⟨_, rfl, by show 2 ≤ sizeLine; decide, fun u hu => ?_⟩
      have S1 : Same H (upd H u (.tup [.ty "list", .ty "tuple"])) := Same.upd_new hu
      have hb1 := S1 _ _ hb
      refine ⟨_, _, _, _, _, true, rfl, upd_same, .cons (.ty _) (.cons (.ty _) .nil), .base (.lst hb1), kitAny_cons (b := true) (kit_ty (by decide +kernel)) (fun q => by cases q) (fun _ => rfl), _, rfl, iteF ?_⟩
      refine ⟨_, rfl, _, _, rfl, .inl (SqL.of hb1), _, rfl, rfl, _, rfl, ?_⟩
      rw [vI_len, hlen, decide_eq_true rfl]
      refine iteF ⟨_, rfl, b, rfl, ⟨_, SqL.of hb1⟩, for_list (K := K) (a := b) (xs := vI r) (fun i σ H' => (∃ v, σ = [some (.ref tp), some (.ref b), some (.int n), v]) ∧ Same H H') ⟨⟨_, rfl⟩, S1⟩ (fun i σ H' _ q => SqL.of (q.2 _ _ hb)) ?_ ?_⟩
      · rintro i x σ H' hi ⟨⟨v, rfl⟩, s1⟩
        obtain ⟨e, he, rfl⟩ := vI_get hi
        obtain ⟨dx, t, h1, h2⟩ := hT.same s1
        refine ⟨_, rfl, _, rfl, tp, CT, dx, _, _, rfl, h1, T.cl, T.nM, tfs_many _ _, _, _, rfl, rfl, e, 0, _, rfl, _, rfl, ?_⟩
        have q := hrg e (List.mem_of_getElem? he)
        have r1 : decide (0 ≤ e) = true := decide_eq_true q.1
        have r2 : decide (e ≤ (bk.length : Int) - 1) = true := decide_eq_true (by have := q.2; omega)
        rw [r1, r2]
        exact iteF ⟨⟨_, rfl⟩, s1⟩
      · rintro σ H' ⟨⟨v, rfl⟩, s1⟩
        exact k _ s1
    · refine ⟨_, pss_cons (ps_if (pt_not (pt_val (pe_b call_isiT B.isinstance PyProof.Rows.boot_isinstance (pa_cons (pv 1) (pa_cons (pe_tup (pa_cons (pe_bltn (v := .ty "list") (by rfl) B.list PyProof.Rows.boot_list rfl) (pa_cons (pe_bltn (v := .ty "tuple") (by rfl) B.tuple PyProof.Rows.boot_tuple rfl) pa_nil))) pa_nil))))) pss_never pss_nil)
        (pss_cons (ps_if (pt_cmpR op_ne (pe_b call_len_seq B.len PySem.boot_len (pa_cons (pv 1) pa_nil)) (pv 2) (nomark _)) pss_never pss_nil)
        (pss_cons (ps_for PassesOwn.never rfl (pi_tup (pv 1)) (pg_name (i := 3) scRowWord.nd rfl (Or.inl rfl))
          (pss_one (ps_if (pt_not (pt_val (pe_cal c hr pass0 (pa_cons (pv 3) (pa_cons pe_int (pa_cons (pe_op op_sub (pe_fld (pv 0) rfl) pe_int) pa_nil)))))) pss_never pss_nil)))
        (pss_one (ps_ret pe_non)))), ?_⟩
      refine ⟨_, rfl, by show 2 ≤ sizeLine; decide, fun u hu => ?_⟩
      have S1 : Same H (upd H u (.tup [.ty "list", .ty "tuple"])) := Same.upd_new hu
      have hb1 := S1 _ _ hb
      refine ⟨_, _, _, _, _, true, rfl, upd_same, .cons (.ty _) (.cons (.ty _) .nil), .base (.tup hb1), kitAny_cons (b := false) (kit_ty (by decide +kernel)) (fun _ => kitAny_cons (b := true) (kit_ty (by decide +kernel)) (fun q => by cases q) (fun _ => rfl)) (fun q => by cases q), _, rfl, iteF ?_⟩
      refine ⟨_, rfl, _, _, rfl, .inr (SqT.of hb1), _, rfl, rfl, _, rfl, ?_⟩
      rw [vI_len, hlen, decide_eq_true rfl]
      refine iteF ⟨_, rfl, b, rfl, ⟨_, SqT.of hb1⟩, for_tup (K := K) (a := b) (xs := vI r) (fun i σ H' => (∃ v, σ = [some (.ref tp), some (.ref b), some (.int n), v]) ∧ Same H H') ⟨⟨_, rfl⟩, S1⟩ (fun i σ H' _ q => SqT.of (q.2 _ _ hb)) ?_ ?_⟩
      · rintro i x σ H' hi ⟨⟨v, rfl⟩, s1⟩
        obtain ⟨e, he, rfl⟩ := vI_get hi
        obtain ⟨dx, t, h1, h2⟩ := hT.same s1
        refine ⟨_, rfl, _, rfl, tp, CT, dx, _, _, rfl, h1, T.cl, T.nM, tfs_many _ _, _, _, rfl, rfl, e, 0, _, rfl, _, rfl, ?_⟩
        have q := hrg e (List.mem_of_getElem? he)
        have r1 : decide (0 ≤ e) = true := decide_eq_true q.1
        have r2 : decide (e ≤ (bk.length : Int) - 1) = true := decide_eq_true (by have := q.2; omega)
        rw [r1, r2]
        exact iteF ⟨⟨_, rfl⟩, s1⟩
      · rintro σ H' ⟨⟨v, rfl⟩, s1⟩
        exact k _ s1

/-! ### _check -/
def spCheck (CT : Addr) : Sp := fun vs H Q _ => ∃ (tp gp rp : Addr) (bk g : List Int) (R : List (List Int)) (rs : List Addr), vs = [.ref tp, .ref gp, .ref rp] ∧ TiesAt CT H tp bk ∧ H gp = some (.lst (vI g)) ∧ H rp = some (.lst (vR rs)) ∧ Rws sI H rs R ∧
  g.length = R.length ∧ g.length ≤ 60 ∧ LabOk g ∧ RowsOk bk R ∧ ∀ H', Same H H' → Q .non H'
theorem scCheck : FnScope ["ties", "guests", "rows", "place", "word"] ["ties", "guests", "rows"] (defScope sCheck) := ⟨rfl, rfl, rfl, by decide +kernel, rfl, by decide +kernel, by decide +kernel⟩
theorem ok_check {f CT : Addr} {fd : FuncData} (F : Fun K "_check" "_check" sCheck f fd) (T : TxT K mg CT) (B : Blt mg) (C : Cst mg) (cL : Cal P w K mg base CX0 2 "is_label" ["thing"] spLabel) (cW : Cal P w K mg base CX0 2 "_row_word" ["ties", "row", "length"] (spRowWord CT)) :
    FnOk P w K mg base CX0 3 f fd ["ties", "guests", "rows"] (spCheck CT) := by
  refine F.ok scCheck (fun vs H Q E h => ?_) (fun cdv A outer s H vs Q E hr h => ?_)
  · obtain ⟨tp, gp, rp, bk, g, R, rs, rfl, _⟩ := h
    rfl
  · obtain ⟨tp, gp, rp, bk, g, R, rs, rfl, hT, hg, hrp, hR, hlen, h60, lab, ok, k⟩ := h
    obtain ⟨t60, mg60⟩ := C.guests
    refine ⟨_, pss_cons (ps_if (PW.pt (pw_or (pt_not (pt_val (pe_b call_isiT B.isinstance PyProof.Rows.boot_isinstance (pa_cons (pv 1) (pa_cons (pe_tup (pa_cons (pe_bltn (v := .ty "list") (by rfl) B.list PyProof.Rows.boot_list rfl) (pa_cons (pe_bltn (v := .ty "tuple") (by rfl) B.tuple PyProof.Rows.boot_tuple rfl) pa_nil))) pa_nil)))))
        (pw_or1 (pt_not (pt_val (pe_b call_isiT B.isinstance PyProof.Rows.boot_isinstance (pa_cons (pv 2) (pa_cons (pe_tup (pa_cons (pe_bltn (v := .ty "list") (by rfl) B.list PyProof.Rows.boot_list rfl) (pa_cons (pe_bltn (v := .ty "tuple") (by rfl) B.tuple PyProof.Rows.boot_tuple rfl) pa_nil))) pa_nil)))))))) pss_never pss_nil)
      (pss_cons (ps_if (pt_cmpR op_gt (pe_b call_len_seq B.len PySem.boot_len (pa_cons (pv 1) pa_nil)) (pe_glob (v := .int 60) (by rfl) mg60 ⟨_, rfl⟩) (nomark _)) pss_never pss_nil)
      (pss_cons (ps_for PassesOwn.never rfl (pi_range1 rfl B.range (pa_cons (pe_b call_len_seq B.len PySem.boot_len (pa_cons (pv 1) pa_nil)) pa_nil)) (pg_name (i := 3) scCheck.nd rfl (Or.inl rfl))
        (pss_cons (ps_if (pt_not (pt_val (pe_cal cL hr pass0 (pa_cons (pe_ix ix_list (pv 1) (pv 3) (fun _ _ => rfl)) pa_nil)))) pss_never pss_nil)
        (pss_cons (ps_if (PW.pt (pw_and (pt_cmpR op_gt (pv 3) pe_int (nomark _)) (pw_and1 (pt_cmpR op_ge (pe_ix ix_list (pv 1) (pe_op op_sub (pv 3) pe_int) (fun _ _ => rfl)) (pe_ix ix_list (pv 1) (pv 3) (fun _ _ => rfl)) (nomark _))))) pss_never pss_nil)
        (pss_cons (ps_if (pt_cmpR op_ge (pv 3) (pe_b call_len_seq B.len PySem.boot_len (pa_cons (pv 2) pa_nil)) (nomark _)) pss_never pss_nil)
        (pss_cons (ps_set (i := 4) scCheck.nd rfl (Or.inl rfl) (pe_cal cW hr pass0 (pa_cons (pv 0) (pa_cons (pe_ix ix_list (pv 2) (pv 3) (fun _ _ => rfl)) (pa_cons (pv 3) pa_nil)))))
        (pss_one (ps_if (pt_cmpR op_notN (pv 4) pe_non (nomark _)) pss_never pss_nil)))))))
      (pss_one (ps_if (pt_cmpR op_gt (pe_b call_len_seq B.len PySem.boot_len (pa_cons (pv 2) pa_nil)) (pe_b call_len_seq B.len PySem.boot_len (pa_cons (pv 1) pa_nil)) (nomark _)) pss_never pss_nil)))), ?_⟩
    -- both are sequences
    refine ⟨_, rfl, by show 2 ≤ sizeLine; decide, fun u hu => ?_⟩
    have S1 : Same H (upd H u (.tup [.ty "list", .ty "tuple"])) := Same.upd_new hu
    refine ⟨_, _, _, _, _, true, rfl, upd_same, .cons (.ty _) (.cons (.ty _) .nil), .base (.lst (S1 _ _ hg)), kitAny_cons (b := true) (kit_ty (by decide +kernel)) (fun q => by cases q) (fun _ => rfl), _, rfl, iteF ?_⟩
    refine ⟨_, rfl, by show 2 ≤ sizeLine; decide, fun u2 hu2 => ?_⟩
    have S2 := Same.new (o := .tup [.ty "list", .ty "tuple"]) S1 hu2
    refine ⟨_, _, _, _, _, true, rfl, upd_same, .cons (.ty _) (.cons (.ty _) .nil), .base (.lst (S2 _ _ hrp)), kitAny_cons (b := true) (kit_ty (by decide +kernel)) (fun q => by cases q) (fun _ => rfl), _, rfl, iteF ?_⟩
    refine ⟨_, rfl, _, _, rfl, .inl (SqL.of (S2 _ _ hg)), _, _, rfl, rfl, _, rfl, ?_⟩
    rw [vI_len, decide_eq_false (show ¬ (60 : Int) < (g.length : Int) by omega)]
    refine iteF ?_
    refine ⟨_, rfl, _, _, rfl, .inl (SqL.of (S2 _ _ hg)), _, rfl, by omega, by rw [vI_len]; omega, for_range (n := ((vI g).length : Int).toNat) (fun i σ H' => (∃ v1 v2, σ = [some (.ref tp), some (.ref gp), some (.ref rp), v1, v2]) ∧ Same H H') ⟨⟨_, _, rfl⟩, S2⟩ ?_ ?_⟩
    · rintro i σ H' hi ⟨⟨v1, v2, rfl⟩, s1⟩
      have hil : i < g.length := by rw [vI_len] at hi; omega
      have g1 := s1 _ _ hg
      have rp1 := s1 _ _ hrp
      have hat : atI (vI g) ((0 : Int) + (i : Int)) = some (.int (g.getD i 0)) := at_of (j := i) (by omega) (vI_at hil)
      refine ⟨_, rfl, _, rfl, _, _, _, _, rfl, rfl, SqL.of g1, hat, _, rfl, _, rfl, ?_⟩
      have q := lab.rg i hil
      rw [decide_eq_true q.1, decide_eq_true q.2]
      refine iteF ?_
      -- place > 0 and guests[place - 1] >= guests[place]
      have hrow : ∃ b, rs[i]? = some b ∧ sI H b (R.getD i []) := hR.get (by rw [← hlen]; exact hil)
      obtain ⟨b, hbi, hbs⟩ := hrow
      have tail : ∀ {G : Prop}, G → G := fun h => h
      refine ⟨_, rfl, _, _, rfl, rfl, _, rfl, ?_⟩
      have fin : tSeq (tIfS (tTest (tOp (rI0 fun i j => .bl (decide (j ≤ i))) (tVar 3) (tCB (fun xs H Q => ∃ p ys, xs = [.ref p] ∧ (SqL K H p ys ∨ SqT K H p ys) ∧ Q (.int ys.length) H) (tCons (tVar 2) tNil)))) tNever tNext)
          (tSeq (tAsg (tCall (spRowWord CT) [] E0 (tCons (tVar 0) (tCons (tOp (rIxL K) (tVar 2) (tVar 3)) (tCons (tVar 3) tNil)))) (gName 4))
            (tIfS (tTest (tOp (fun x y H Q => y = .non ∧ Q (.bl (!decide (x = .non))) H) (tVar 4) (tC .non))) tNever tNext))
          { nx := fun σ' H' => (∃ v1 v2, σ' = [some (.ref tp), some (.ref gp), some (.ref rp), v1, v2]) ∧ Same H H', rt := Q, bk := fun _ _ => False, ct := fun σ' H' => (∃ v1 v2, σ' = [some (.ref tp), some (.ref gp), some (.ref rp), v1, v2]) ∧ Same H H' }
          [some (.ref tp), some (.ref gp), some (.ref rp), some (.int (0 + (i : Int))), v2] H' := by
        refine ⟨_, rfl, _, rfl, _, _, rfl, .inl (SqL.of rp1), _, _, rfl, rfl, _, rfl, ?_⟩
        rw [vR_len, hR.len, ← hlen, decide_eq_false (show ¬ (g.length : Int) ≤ 0 + (i : Int) by omega)]
        refine iteF ⟨_, rfl, _, rfl, _, rfl, _, _, _, _, rfl, rfl, SqL.of rp1, at_of (j := i) (by omega) (vR_at hbi), _, rfl, tp, b, bk, R.getD i [], i, ?_, hT.same s1, sI_same s1 _ _ hbs, ok.len i (by rw [← hlen]; exact hil), ok.rg i (by rw [← hlen]; exact hil), fun H2 s2 => ?_⟩
        · have e : (0 : Int) + (i : Int) = (i : Int) := by omega
          rw [e]; rfl
        · refine ⟨_, rfl, rfl, _, rfl, ?_⟩
          rw [decide_eq_true rfl]
          exact iteF ⟨⟨_, _, rfl⟩, s1.trans s2⟩
      by_cases h0 : (0 : Int) < 0 + (i : Int)
      · rw [decide_eq_true h0]
        have hat2 : atI (vI g) ((0 : Int) + (i : Int) - 1) = some (.int (g.getD (i - 1) 0)) := at_of (j := i - 1) (by omega) (vI_at (by omega))
        refine iteT ⟨_, rfl, _, rfl, _, _, rfl, rfl, _, _, _, _, rfl, rfl, SqL.of g1, hat2, _, rfl, _, rfl, _, _, _, _, rfl, rfl, SqL.of g1, hat, _, _, rfl, rfl, _, rfl, ?_⟩
        have a := lab.asc (i - 1) (by omega)
        rw [show i - 1 + 1 = i by omega] at a
        rw [decide_eq_false (show ¬ g.getD i 0 ≤ g.getD (i - 1) 0 by omega)]
        exact iteF fin
      · rw [decide_eq_false h0]
        exact iteF fin
    · rintro σ H' ⟨⟨v1, v2, rfl⟩, s1⟩
      refine ⟨_, rfl, _, _, rfl, .inl (SqL.of (s1 _ _ hrp)), _, rfl, _, _, rfl, .inl (SqL.of (s1 _ _ hg)), _, _, rfl, rfl, _, rfl, ?_⟩
      rw [vR_len, vI_len, hR.len, decide_eq_false (show ¬ (g.length : Int) < (R.length : Int) by omega)]
      exact iteF (k _ s1)
end
end K7

namespace K7
open PySem L2
theorem fs2_len (x y : V) : (putF "guests" x (putF "ties" y [])).length < 1000 := by
  have h := length_putF "guests" x (putF "ties" y [])
  have e : (putF "ties" y []).length = 1 := rfl
  omega
/-- a comprehension without a test -/
theorem yesT {σ : L2.St} {H : Hp} {A B : Hp → Prop} (h : A H) : tYes σ H (fun b H3 => if b = true then A H3 else B H3) := by
  show (if true = true then A H else B H)
  rw [if_pos rfl]
  exact h
/-! ### readings that stand in a comprehension's block -/
def rTupOf (K : PySem.W.Frag) : List V → Hp → VK → Prop := fun xs H Q => ∃ p ys, xs = [V.ref p] ∧ ((SqL K H p ys ∧ ∀ l, H l = none → Q (.ref l) (upd H l (.tup ys))) ∨ (SqT K H p ys ∧ Q (.ref p) H))
def rListOf (K : PySem.W.Frag) : List V → Hp → VK → Prop := fun xs H Q => ∃ p ys, xs = [V.ref p] ∧ (SqL K H p ys ∨ SqT K H p ys) ∧ ∀ l, H l = none → Q (.ref l) (upd H l (.lst ys))
def rLenOf (K : PySem.W.Frag) : List V → Hp → VK → Prop := fun xs H Q => ∃ p ys, xs = [V.ref p] ∧ (SqL K H p ys ∨ SqT K H p ys) ∧ Q (.int ys.length) H
section
variable {P : Program} {w : World} {K : PySem.W.Frag} {mg : Str → Option Value} {base : Heap}
/-! ### Company(..) -/
def spCompany (C CT : Addr) : Sp := fun vs H Q _ => ∃ (p dx tp gp rp : Addr) (bk g : List Int) (R : List (List Int)) (rs : List Addr), vs = [.ref p, .ref tp, .ref gp, .ref rp] ∧ H p = some (.ins C dx []) ∧ TiesAt CT H tp bk ∧ H gp = some (.lst (vI g)) ∧ H rp = some (.lst (vR rs)) ∧ Rws sI H rs R ∧
  g.length = R.length ∧ g.length ≤ 60 ∧ LabOk g ∧ RowsOk bk R ∧ ∀ H', But p H H' → CompAt C CT H' p bk g R → Q .non H'
theorem scCompany : FnScope ["self", "ties", "guests", "rows", "row"] ["self", "ties", "guests", "rows"] (defScope sCompany) := ⟨rfl, rfl, rfl, by decide +kernel, rfl, by decide +kernel, by decide +kernel⟩
abbrev FunCompany (K : PySem.W.Frag) (dvs : List V) (f : Addr) (fd : FuncData) : Prop := FunD K "__init__" "Company.__init__" (defArgs sCompany) (defBody sCompany) (defScope sCompany) dvs [] f fd
theorem ok_company {f C CT : Addr} {fd : FuncData} {dvs : List V} (F : FunCompany K dvs f fd) (T : TxC K mg C) (TT : TxT K mg CT) (B : Blt mg) (cC : Cal P w K mg base CX0 3 "_check" ["ties", "guests", "rows"] (spCheck CT)) :
    FnOk P w K mg base CX0 4 f fd ["self", "ties", "guests", "rows"] (spCompany C CT) := by
  refine F.ok (CX := CX0) scCompany (fun vs H Q E h => ?_) (fun cdv A outer s H vs Q E hr h => ?_)
  · obtain ⟨p, dx, tp, gp, rp, bk, g, R, rs, rfl, _⟩ := h
    rfl
  · obtain ⟨p, dx, tp, gp, rp, bk, g, R, rs, rfl, hp, hT, hg, hrp, hR, hlen, h60, lab, ok, k⟩ := h
    have ntp : tp ≠ p := by
      obtain ⟨dx', t', h1, h2⟩ := hT
      intro e
      rw [e, hp] at h1
      cases h1
    have h : ∃ t, PSs (cxOf CX0 P w K mg base ["self", "ties", "guests", "rows", "row"] "Company.__init__" (defScope sCompany) f cdv A outer s H E).nox (defBody sCompany) t ∧ t { nx := fun _ H' => Q .non H', rt := Q } (start ["self", "ties", "guests", "rows", "row"] [.ref p, .ref tp, .ref gp, .ref rp]) H := by
      refine ⟨_, pss_cons (ps_expr (pe_cal cC hr pass0 (pa_cons (pv 1) (pa_cons (pv 2) (pa_cons (pv 3) pa_nil)))))
        (pss_cons (ps_fld (pv 0) (pv 1) rfl)
        (pss_cons (ps_fld (pv 0) (pe_t call_tuple_of B.tuple PyProof.Rows.boot_tuple (pa_cons (pv 2) pa_nil)) rfl)
        (pss_one (ps_fld (pv 0) (pe_t call_tuple_of B.tuple PyProof.Rows.boot_tuple (pa_cons
          (pe_lc (own := [("row", 4)]) (g := gName 4) (tt := tYes) rfl scCompany.nd (pi_list (pv 3)) (blkOk_by (N := ["self", "ties", "guests", "rows", "row"]) (sc := defScope sCompany) (by decide +kernel)) (fun _ _ _ _ _ => pg_name (i := 4) scCompany.nd rfl (Or.inl rfl)) (fun _ _ _ _ _ => pts_nil)
            (fun _ _ _ _ _ => pe_t (r := rTupOf K) call_tuple_of B.tuple PyProof.Rows.boot_tuple (pa_cons (pv 4) pa_nil))) pa_nil)) rfl)))), ?_⟩
      refine ⟨_, rfl, _, rfl, _, rfl, tp, gp, rp, bk, g, R, rs, rfl, hT, hg, hrp, hR, hlen, h60, lab, ok, fun H1 s1 => ?_⟩
      refine ⟨_, rfl, _, rfl, p, C, dx, _, rfl, s1 _ _ hp, T.cl, T.nT, by show 0 < 1000; decide, ?_⟩
      have b1 : But p H (upd H1 p (.ins C dx (putF "ties" (.ref tp) []))) := (But.of s1).put
      have ngp : gp ≠ p := ne_of hg hp (by intro z; cases z)
      have nrp : rp ≠ p := ne_of hrp hp (by intro z; cases z)
      refine ⟨_, rfl, _, _, rfl, .inl ⟨SqL.of (b1 _ _ ngp hg), fun gt hgt => ?_⟩⟩
      have npg : p ≠ gt := ne_of_none upd_same hgt
      have b2 := b1.new (o := .tup (vI g)) hgt
      refine ⟨_, rfl, p, C, dx, _, rfl, by rw [upd_ne npg, upd_same], T.cl, T.nG, by show 1 < 1000; decide, ?_⟩
      have b3 := b2.put (o := .ins C dx (putF "guests" (.ref gt) (putF "ties" (.ref tp) [])))
      generalize hH3 : upd (upd (upd H1 p (.ins C dx (putF "ties" (.ref tp) []))) gt (.tup (vI g))) p (.ins C dx (putF "guests" (.ref gt) (putF "ties" (.ref tp) []))) = H3 at b3
      have p3 : H3 p = some (.ins C dx (putF "guests" (.ref gt) (putF "ties" (.ref tp) []))) := by rw [← hH3, upd_same]
      have g3 : H3 gt = some (.tup (vI g)) := by rw [← hH3, upd_ne npg.symm, upd_same]
      -- tuple([tuple(row) for row in rows])
      refine ⟨_, rfl, rp, rfl, ⟨_, SqL.of (b3 _ _ nrp hrp)⟩, fun D hD => lc_list (K := K) (a := rp) (xs := vR rs) (fun i H' => Same H3 H' ∧ ∃ ts, H' D = some (.lst (vR ts)) ∧ Rws tI H' ts (R.take i)) ⟨Same.upd_new hD, [], upd_same, Rws.nil⟩ (fun i H' _ q => SqL.of (q.1 _ _ (b3 _ _ nrp hrp))) ?_ ?_⟩
      · rintro i x H' hi ⟨s4, ts, hDt, hts⟩
        obtain ⟨b, hbi, rfl⟩ := vR_get hi
        have hil : i < R.length := by rw [← hR.len]; exact (List.getElem?_eq_some_iff.mp hbi).1
        have hRi : R[i]? = some (R.getD i []) := get_of [] hil
        have hb : sI H b (R.getD i []) := hR.at_ i b _ hbi hRi
        have hlts : ts.length = i := by rw [hts.len, List.length_take]; omega
        have hz : (vR ts).length < sizeLine := by rw [vR_len, hlts]; exact size_lt (by omega)
        refine ⟨rfl, yesT ?_⟩
        refine ⟨_, rfl, ?_⟩
        rcases hb with hb | hb
        · have nb : b ≠ p := ne_of hb hp (by intro z; cases z)
          have hb4 : H' b = some (.lst (vI (R.getD i []))) := s4 _ _ (b3 _ _ nb hb)
          refine ⟨_, _, rfl, .inl ⟨SqL.of hb4, fun l hl => ?_⟩⟩
          have nDl : D ≠ l := ne_of_none hDt hl
          have hDt2 : upd H' l (.tup (vI (R.getD i []))) D = some (.lst (vR ts)) := by rw [upd_ne nDl]; exact hDt
          refine ⟨_, hDt2, hz, Same.put (Same.new s4 hl) hD, ts ++ [l], by rw [upd_same, ← vR_snoc], ?_⟩
          rw [take_snoc hRi]
          exact ((hts.same (tI_same (Same.upd_new hl))).same (tI_put hDt2)).snoc (tI_put hDt2 _ _ (show upd H' l _ l = _ from upd_same))
        · have nb : b ≠ p := ne_of hb hp (by intro z; cases z)
          have hb4 : H' b = some (.tup (vI (R.getD i []))) := s4 _ _ (b3 _ _ nb hb)
          refine ⟨_, _, rfl, .inr ⟨SqT.of hb4, ?_⟩⟩
          refine ⟨_, hDt, hz, Same.put s4 hD, ts ++ [b], by rw [upd_same, ← vR_snoc], ?_⟩
          rw [take_snoc hRi]
          exact (hts.same (tI_put hDt)).snoc (tI_put hDt _ _ hb4)
      · rintro H' ⟨s4, ts, hDt, hts⟩
        rw [vR_len, hR.len, List.take_length] at hts
        refine ⟨_, _, rfl, .inl ⟨SqL.of hDt, fun rt hrt => ?_⟩⟩
        have s5 := Same.new (o := .tup (vR ts)) s4 hrt
        have hp5 := s5 _ _ p3
        refine ⟨_, rfl, p, C, dx, _, rfl, hp5, T.cl, T.nR, fs2_len _ _, ?_⟩
        have npr : p ≠ rt := ne_of_none (s4 _ _ p3) hrt
        refine k _ ((b3.trans (But.of s5)).put) ⟨dx, tp, gt, rt, ts, ?_, ?_, ?_, ?_, ?_⟩
        · rw [upd_same, cfs_eq]
        · obtain ⟨dx', t', h1, h2⟩ := hT
          have nt' : t' ≠ p := ne_of h2 hp (by intro z; cases z)
          refine ⟨dx', t', ?_, ?_⟩
          · rw [upd_ne ntp]; exact s5 _ _ (b3 _ _ ntp h1)
          · rw [upd_ne nt']; exact s5 _ _ (b3 _ _ nt' h2)
        · rw [upd_ne npg.symm]; exact s5 _ _ g3
        · rw [upd_ne npr.symm, upd_same]
        · refine (hts.same (tI_same (Same.upd_new (o := .tup (vR ts)) hrt))).imp fun b r _ hb => ?_
          have nb : b ≠ p := ne_of hb hp5 (by intro z; cases z)
          show upd _ p _ b = _
          rw [upd_ne nb]; exact hb
    obtain ⟨t, h1, h2⟩ := h
    exact ⟨t, h1.nox, h2⟩

/-! ### tie_at, __len__, __eq__ -/
/-- the ties of the guests, from each to each -/
structure Mat (bk : List Int) (n : Nat) (M : Mx) : Prop where
  rg : ∀ i j, i < n → j < n → i ≠ j → 0 ≤ M i j ∧ M i j < (bk.length : Int)
  anti : Anti (bkf bk) n M
theorem Mat.rows {bk : List Int} {n : Nat} {M : Mx} (h : Mat bk n M) : RowsOk bk (rowsM M n) := by
  have hl : (rowsM M n).length = n := by unfold rowsM; rw [List.length_map, List.length_range]
  have e : ∀ j, j < n → (rowsM M n).getD j [] = (List.range j).map fun a => M j a := fun j hj => by unfold rowsM; simp [hj]
  refine ⟨fun j hj => ?_, fun j hj t ht => ?_⟩
  · rw [hl] at hj
    rw [e j hj, List.length_map, List.length_range]
  · rw [hl] at hj
    rw [e j hj] at ht
    obtain ⟨a, ha, rfl⟩ := List.mem_map.mp ht
    have ha := List.mem_range.mp ha
    exact h.rg j a hj (Nat.lt_trans ha hj) (by omega)
theorem rowsM_len (M : Mx) (n : Nat) : (rowsM M n).length = n := by unfold rowsM; rw [List.length_map, List.length_range]
theorem rowsM_at {M : Mx} {n j : Nat} (h : j < n) : (rowsM M n)[j]? = some ((List.range j).map fun a => M j a) := by unfold rowsM; simp [h]
/-- a company whose ties are told by M -/
def CoM (C CT : Addr) (H : Hp) (p : Addr) (bk : List Int) (n : Nat) (M : Mx) : Prop := BkOk bk ∧ Mat bk n M ∧ ∃ g, g.length = n ∧ CompAt C CT H p bk g (rowsM M n)
theorem CoM.same {C CT : Addr} {H H' : Hp} {p : Addr} {bk : List Int} {n : Nat} {M : Mx} (h : CoM C CT H p bk n M) (s : Same H H') : CoM C CT H' p bk n M := by
  obtain ⟨h1, h2, g, h3, h4⟩ := h
  exact ⟨h1, h2, g, h3, h4.same s⟩
def spTieAt (C CT : Addr) : Sp := fun vs H Q _ => ∃ (p : Addr) (bk : List Int) (n i j : Nat) (M : Mx), vs = [.ref p, .int i, .int j] ∧ CoM C CT H p bk n M ∧ i < n ∧ j < n ∧ i ≠ j ∧ Q (.int (M i j)) H
theorem scTieAt : FnScope ["self", "one", "other"] ["self", "one", "other"] (defScope sTieAt) := ⟨rfl, rfl, rfl, by decide +kernel, rfl, by decide +kernel, by decide +kernel⟩
theorem ok_tieAt {f C CT : Addr} {fd : FuncData} (F : Fun K "tie_at" "Company.tie_at" sTieAt f fd) (T : TxC K mg C) (TT : TxT K mg CT) : FnOk P w K mg base CX0 1 f fd ["self", "one", "other"] (spTieAt C CT) := by
  refine F.ok scTieAt (fun vs H Q E h => ?_) (fun cdv A outer s H vs Q E hr h => ?_)
  · obtain ⟨p, bk, n, i, j, M, rfl, _⟩ := h
    rfl
  · obtain ⟨p, bk, n, i, j, M, rfl, ⟨hbk, hM, g, hg, dx, tt, gt, rt, rs, h1, ⟨td, bt, h2, h3⟩, h4, h5, h6⟩, hi, hj, hne, k⟩ := h
    refine ⟨_, pss_cons (ps_if (pt_cmpR op_gt (pv 1) (pv 2) (nomark _)) (pss_one (ps_ret (pe_ix ix_tup (pe_ix ix_tup (pe_fld (pv 0) rfl) (pv 1) (fun _ _ => rfl)) (pv 2) (fun _ _ => rfl)))) pss_nil)
      (pss_one (ps_ret (pe_ix ix_tup (pe_fld (pe_fld (pv 0) rfl) rfl) (pe_ix ix_tup (pe_ix ix_tup (pe_fld (pv 0) rfl) (pv 2) (fun _ _ => rfl)) (pv 1) (fun _ _ => rfl)) (fun _ _ => rfl)))), ?_⟩
    have row : ∀ a b, b < a → a < n → ∃ c, rs[a]? = some c ∧ H c = some (.tup (vI ((List.range a).map fun x => M a x))) ∧ atI (vI ((List.range a).map fun x => M a x)) (b : Int) = some (.int (M a b)) := fun a b hba han => by
      obtain ⟨c, h7, h8⟩ := h6.get (i := a) (by rw [rowsM_len]; exact han)
      rw [getD_of (rowsM_at han)] at h8
      refine ⟨c, h7, h8, at_of (j := b) rfl ?_⟩
      have := vI_at (ns := (List.range a).map fun x => M a x) (i := b) (by simpa using hba)
      rw [this]
      simp [hba]
    refine ⟨_, rfl, _, rfl, _, _, rfl, rfl, _, rfl, ?_⟩
    by_cases h : (j : Int) < (i : Int)
    · rw [decide_eq_true h]
      obtain ⟨c, h7, h8, h9⟩ := row i j (by omega) hi
      exact iteT ⟨_, rfl, p, C, dx, _, _, rfl, h1, T.cl, T.nR, cfs_rows _ _ _, _, rfl, _, _, _, _, rfl, rfl, SqT.of h5, at_of (j := i) rfl (vR_at h7), _, rfl, _, _, _, _, rfl, rfl, SqT.of h8, h9, k⟩
    · rw [decide_eq_false h]
      obtain ⟨c, h7, h8, h9⟩ := row j i (by omega) hj
      have r := hM.rg j i hj hi (fun e => hne e.symm)
      have q := at_int r.1 r.2
      have e : bk.getD (M j i).toNat 0 = M i j := (hM.anti i j hi hj hne).symm
      rw [e] at q
      refine iteF ⟨_, rfl, p, C, dx, _, _, rfl, h1, T.cl, T.nT, cfs_ties _ _ _, tt, CT, td, _, _, rfl, h2, TT.cl, TT.nB, tfs_backs _ _, ?_⟩
      exact ⟨_, rfl, p, C, dx, _, _, rfl, h1, T.cl, T.nR, cfs_rows _ _ _, _, rfl, _, _, _, _, rfl, rfl, SqT.of h5, at_of (j := j) rfl (vR_at h7), _, rfl, _, _, _, _, rfl, rfl, SqT.of h8, h9, _, _, _, _, rfl, rfl, SqT.of h3, q, k⟩
def spCLen (C CT : Addr) : Sp := fun vs H Q _ => ∃ (p : Addr) (bk g : List Int) (R : List (List Int)), vs = [.ref p] ∧ CompAt C CT H p bk g R ∧ Q (.int g.length) H
theorem scCLen : FnScope ["self"] ["self"] (defScope sCLen) := ⟨rfl, rfl, rfl, by decide +kernel, rfl, by decide +kernel, by decide +kernel⟩
theorem ok_cLen {f C CT : Addr} {fd : FuncData} (F : Fun K "__len__" "Company.__len__" sCLen f fd) (T : TxC K mg C) (B : Blt mg) : FnOk P w K mg base CX0 1 f fd ["self"] (spCLen C CT) := by
  refine F.ok scCLen (fun vs H Q E h => ?_) (fun cdv A outer s H vs Q E hr h => ?_)
  · obtain ⟨p, bk, g, R, rfl, _⟩ := h
    rfl
  · obtain ⟨p, bk, g, R, rfl, ⟨dx, tt, gt, rt, rs, h1, h2, h4, h5, h6⟩, k⟩ := h
    refine ⟨_, pss_one (ps_ret (pe_b call_len_seq B.len PySem.boot_len (pa_cons (pe_fld (pv 0) rfl) pa_nil))), ?_⟩
    refine ⟨_, rfl, p, C, dx, _, _, rfl, h1, T.cl, T.nG, cfs_guests _ _ _, _, _, rfl, .inr (SqT.of h4), ?_⟩
    rw [vI_len]; exact k
end
end K7

/-! ### min over a list whose items are compared by what stands in the heap -/
namespace K7M
open PySem
section
variable {prog : Program} {w : World} {A : Around} {E : Value → Shared → Prop} {s : Shared} {R : Result → Shared → Prop} {I S : Addr} {fp wr : List Addr} {n : Nat} {P : Nat → Value → Prop} {St : Nat → Heap → Prop}
/-- the comparison, wherever J holds of the heap -/
def CmpIn (prog : Program) (w : World) (A : Around) (J : Heap → Prop) (P : Nat → Value → Prop) (bt : Nat → Nat → Bool) : Prop :=
  ∀ i j vi vj (s : Shared) (Q : Value → Shared → Prop) (E : Value → Shared → Prop), J s.heap → P i vi → P j vj → Q (.bool (bt i j)) s → wpAny (model prog w) A (richCompare .Lt vi vj) Q E s
theorem loop_name : (toString "min" ++ toString ".loop" : String) = "min.loop" := by decide
theorem min_turns (W : Walks prog w A.in1 I fp wr n P St) (bt : Nat → Nat → Bool) (J : Heap → Prop) (hJ : ∀ h h', J h → (∀ b o, b ∉ wr → b ≠ S → h.get? b = some o → h'.get? b = some o) → J h')
    (hcmp : CmpIn prog w A.in1 J P bt) (hSf : S ∉ fp) : ∀ (r j : Nat) (s : Shared) (vb : Value) (c : Nat), n - (j + 1) = r → j + 1 ≤ n → St (j + 1) s.heap → J s.heap → P (argBest bt j) vb →
      s.heap.get? S = some { cls := .type "list", dict := none, data := .seq #[vb, vb] c, slots := #[] } →
      (∀ v h' tk, P (argBest bt (n - 1)) v → (∀ b o, b ∉ wr → b ≠ S → s.heap.get? b = some o → h'.get? b = some o) → R (.ok (.ret v)) { s with heap := h', toks := tk }) →
      codeAny (model prog w) A (.builtin "min.loop" ⟨[.ref I, .none, .ref S], []⟩) R s := by
  have hSw : S ∉ wr := fun z => hSf (W.sub S z)
  intro r
  induction r with
  | zero =>
    intro j s vb c hr hj st jj pb hS fin
    have en : j + 1 = n := by omega
    refine codeAny_builtin F.entry_min_loop ?_
    rw [Around.under_plainId F.plain_min_loop _]
    show wpAny _ _ (seqItems? (.ref S) >>= _) _ _ s
    refine wpAny_bind (wpAny_seqItems hS rfl ?_)
    show wpAny _ _ (tryCatch (pyNext (.ref I)) _ >>= _) _ _ s
    refine wpAny_bind (wpAny_tryCatch (W.done s _ _ (en ▸ st) fun h1 tk k1 => ?_))
    have hS1 := k1 S _ hSw hS
    show wpAny _ _ (updateSeq S (fun _ => #[]) >>= _) _ _ _
    refine wpAny_bind (wpAny_updateSeq hS1 rfl (wpAny_bind (wpAny_letGo (wpAny_pure ?_))))
    exact fin vb _ tk (by rw [← en]; exact pb) fun b o hb hn e => (Heap.get?_update_other _ _ (Ne.symm hn)).trans (k1 b o hb e)
  | succ r ih =>
    intro j s vb c hr hj st jj pb hS fin
    have lt : j + 1 < n := by omega
    refine codeAny_builtin F.entry_min_loop ?_
    rw [Around.under_plainId F.plain_min_loop _]
    show wpAny _ _ (seqItems? (.ref S) >>= _) _ _ s
    refine wpAny_bind (wpAny_seqItems hS rfl ?_)
    show wpAny _ _ (tryCatch (pyNext (.ref I)) _ >>= _) _ _ s
    refine wpAny_bind (wpAny_tryCatch (W.item (j + 1) s _ _ lt st fun v h1 tk pv st1 k1 => ?_))
    have hS1 := k1 S _ hSw hS
    have j1 : J h1 := hJ _ _ jj fun b o hb _ e => k1 b o hb e
    show wpAny _ _ (tryCatch (holding [v, v] (richCompare .Lt v vb >>= _)) _ >>= _) _ _ _
    refine wpAny_bind (wpAny_tryCatch (wpAny_holding (wpAny_bind (hcmp (j + 1) (argBest bt j) v vb _ _ _ j1 pv pb ?_))))
    refine wpAny_bind (wpAny_holding (wpAny_truthy_bool (wpAny_bind (wpAny_letGo (wpAny_pure ?_)))))
    cases hb : bt (j + 1) (argBest bt j) with
    | false =>
      simp only [Bool.false_eq_true, if_false]
      refine wpAny_bind (wpAny_letGo ?_)
      rw [loop_name]
      refine wpAny_pure ⟨plainId_quiet F.plain_min_loop _, ih (j + 1) _ vb c (by omega) lt st1 j1 (by simp only [argBest, hb, Bool.false_eq_true, if_false]; exact pb) hS1 fun v2 h2 tk2 p2 k2 => ?_⟩
      exact fin v2 h2 tk2 p2 fun b o h3 h4 e => k2 b o h3 h4 (k1 b o h3 e)
    | true =>
      simp only [if_true]
      refine wpAny_bind (wpAny_updateSeq hS1 rfl (wpAny_bind (wpAny_letGo ?_)))
      rw [loop_name]
      have other : ∀ b o, b ≠ S → h1.get? b = some o → (h1.update S (Obj.mapSeq fun _ => #[v, v])).get? b = some o := fun b o hn e => (Heap.get?_update_other _ _ (Ne.symm hn)).trans e
      refine wpAny_pure ⟨plainId_quiet F.plain_min_loop _, ih (j + 1) _ v _ (by omega) lt (W.frame _ _ _ st1 fun b h3 o e => other b o (fun z => hSf (by rw [← z]; exact h3)) e) (hJ _ _ j1 fun b o _ hn e => other b o hn e)
        (by simp only [argBest, hb, if_true]; exact pv) (Heap.get?_update_self _ hS1 rfl) fun v2 h2 tk2 p2 k2 => ?_⟩
      exact fin v2 h2 tk2 p2 fun b o h3 h4 e => k2 b o h3 h4 (other b o h4 (k1 b o h3 e))

/-- min(xs), xs a list that stands; the items are compared by what stood -/
theorem min_by {l : Addr} {items : Array Value} {Q : Value → Shared → Prop} (hh : A.handled = none) (hl : s.heap.IsList l items) (hne : 0 < items.size) (bt : Nat → Nat → Bool)
    (hcmp : CmpIn prog w A.in1 (fun h => ∀ b o, s.heap.get? b = some o → h.get? b = some o) (fun i v => items[i]? = some v) bt)
    (h : ∀ v h' tk, items[argBest bt (items.size - 1)]? = some v → (∀ b o, s.heap.get? b = some o → h'.get? b = some o) → Q v { s with heap := h', toks := tk }) :
    wpAny (model prog w) A (call (.builtin "min") [.ref l]) Q E s := by
  have hll : l < s.heap.objs.size := by obtain ⟨_, e, _⟩ := hl; exact Heap.lt_size e
  have hlI : l ≠ s.heap.objs.size := Nat.ne_of_lt hll
  refine call_function_tree F.kind_min F.plain_min F.entry_min (F.args_min1 _) ?_
  show wpAny _ _ (Builtin.Builtins.bindParams "min" ["key", "default"] 0 ⟨[], []⟩ >>= _) _ _ s
  refine wpAny_bind (wpAny_of_eq (show Builtin.Builtins.bindParams "min" ["key", "default"] 0 ⟨[], []⟩ = pure [none, none] from rfl) (wpAny_bind (wpAny_pure ?_)))
  refine wpAny_bind (wpAny_pyIter_list hl (wpAny_bind (wpAny_newObj_type ?_)))
  rw [loop_name]
  have W := Walks.list (prog := prog) (w := w) (A := A.in1) hh s.heap.objs.size l hlI items
  generalize hH : (s.heap.push { cls := .type "list_iterator", data := .fields #[.ref l, .int 0 0] }) = g
  have szg : g.objs.size = s.heap.objs.size + 1 := by rw [← hH]; exact Heap.size_push ..
  have keep : ∀ b o, s.heap.get? b = some o → (g.push { cls := .type "list", data := .seq #[] }).get? b = some o := fun b o e => by
    rw [← hH]
    exact Heap.get?_push_of_some _ (Heap.get?_push_of_some _ e)
  have nS : ∀ b o, s.heap.get? b = some o → b ≠ g.objs.size := fun b o e => by
    have := Heap.lt_size e
    rw [szg]
    exact Nat.ne_of_lt (Nat.lt_succ_of_lt this)
  have nI : ∀ b o, s.heap.get? b = some o → b ∉ [s.heap.objs.size] := fun b o e z => by
    have := Heap.lt_size e
    rw [List.mem_singleton.mp z] at this
    exact Nat.lt_irrefl _ this
  have gI : (g.push { cls := .type "list", data := .seq #[] }).get? s.heap.objs.size = some { cls := .type "list_iterator", data := .fields #[.ref l, .int 0 0] } := by
    refine Heap.get?_push_of_some _ ?_
    rw [← hH]
    exact Heap.get?_push_size _ rfl
  have gS : (g.push { cls := .type "list", data := .seq #[] }).get? g.objs.size = some ({ cls := .type "list", dict := none, data := .seq #[] 0, slots := #[] } : Obj) := Heap.get?_push_size _ rfl
  have gl : (g.push { cls := .type "list", data := .seq #[] }).IsList l items := by
    obtain ⟨o, e, r⟩ := hl
    exact ⟨o, keep _ _ e, r⟩
  have SI : g.objs.size ≠ s.heap.objs.size := by rw [szg]; exact Nat.succ_ne_self _
  have Sl : g.objs.size ≠ l := by rw [szg]; exact Nat.ne_of_gt (Nat.lt_succ_of_lt hll)
  have hSf : g.objs.size ∉ [s.heap.objs.size, l] := by
    intro z
    rcases List.mem_cons.mp z with e | z
    · exact SI e
    · exact Sl (List.mem_singleton.mp z)
  refine wpAny_pure ⟨plainId_quiet F.plain_min_loop _, ?_⟩
  refine codeAny_builtin F.entry_min_loop ?_
  rw [Around.under_plainId F.plain_min_loop _]
  show wpAny _ _ (seqItems? (.ref g.objs.size) >>= _) _ _ _
  refine wpAny_bind (wpAny_seqItems gS rfl ?_)
  show wpAny _ _ (tryCatch (pyNext (.ref s.heap.objs.size)) _ >>= _) _ _ _
  refine wpAny_bind (wpAny_tryCatch (W.item 0 _ _ _ hne ⟨⟨_, gI, rfl, rfl⟩, gl⟩ fun v h1 tk pv st1 k1 => ?_))
  have S1 : h1.get? g.objs.size = some ({ cls := .type "list", dict := none, data := .seq #[] 0, slots := #[] } : Obj) := k1 _ _ (fun z => SI (List.mem_singleton.mp z)) gS
  have other : ∀ b o, b ≠ g.objs.size → h1.get? b = some o → (h1.update g.objs.size (Obj.mapSeq fun _ => #[v, v])).get? b = some o := fun b o hn e => (Heap.get?_update_other _ _ (Ne.symm hn)).trans e
  show wpAny _ _ (updateSeq g.objs.size (fun _ => #[v, v]) >>= _) _ _ _
  refine wpAny_bind (wpAny_updateSeq S1 rfl ?_)
  rw [loop_name]
  refine wpAny_pure ⟨plainId_quiet F.plain_min_loop _, min_turns W bt (fun h => ∀ b o, s.heap.get? b = some o → h.get? b = some o) (fun x y hx hk b o e => hk b o (nI b o e) (nS b o e) (hx b o e)) hcmp hSf _ 0 _ v _ rfl hne
    (W.frame _ _ _ st1 fun b hb o e => other b o (fun z => hSf (by rw [← z]; exact hb)) e) (fun b o e => other b o (nS b o e) (k1 b o (nI b o e) (keep b o e))) pv (Heap.get?_update_self _ S1 rfl) fun v2 h2 tk2 p2 k2 => ?_⟩
  exact h v2 h2 tk2 p2 fun b o e => k2 b o (nI b o e) (nS b o e) (other b o (nS b o e) (k1 b o (nI b o e) (keep b o e)))
end
end K7M

namespace K7
open PySem L2
/-- the best of an order: none ahead is less -/
theorem argBest_least {α : Type} {lt : α → α → Bool} (h : STO lt) (k : Nat → α) : ∀ n, argBest (fun i j => lt (k i) (k j)) n ≤ n ∧ ∀ j, j ≤ n → lt (k j) (k (argBest (fun i j => lt (k i) (k j)) n)) = false
  | 0 => ⟨Nat.le_refl _, fun j hj => by
      have e : j = 0 := by omega
      subst e
      exact h.irr _⟩
  | n + 1 => by
    obtain ⟨h1, h2⟩ := argBest_least h k n
    show (if lt (k (n + 1)) (k (argBest (fun i j => lt (k i) (k j)) n)) = true then n + 1 else argBest (fun i j => lt (k i) (k j)) n) ≤ n + 1 ∧ ∀ j, j ≤ n + 1 → lt (k j) (k (if lt (k (n + 1)) (k (argBest (fun i j => lt (k i) (k j)) n)) = true then n + 1 else argBest (fun i j => lt (k i) (k j)) n)) = false
    by_cases hb : lt (k (n + 1)) (k (argBest (fun i j => lt (k i) (k j)) n)) = true
    · rw [if_pos hb]
      refine ⟨Nat.le_refl _, fun j hj => ?_⟩
      by_cases e : j = n + 1
      · subst e; exact h.irr _
      · exact h.le_trans (h.asym hb) (h2 j (by omega))
    · rw [if_neg hb]
      refine ⟨by omega, fun j hj => ?_⟩
      by_cases e : j = n + 1
      · subst e
        simpa using hb
      · exact h2 j (by omega)

/-! ### data -/
abbrev dI (r : List Int) : PyData := .tuple (r.map PyData.int)
abbrev dL (r : List Int) : PyData := .list (r.map PyData.int)
abbrev dT (R : List (List Int)) : PyData := .tuple (R.map dI)
abbrev dLT (R : List (List Int)) : PyData := .list (R.map dI)
theorem eqvAll_ints : ∀ r r' : List Int, PyData.eqvAll (r.map PyData.int) (r'.map PyData.int) = decide (r = r')
  | [], [] => by simp [PyData.eqvAll]
  | [], _ :: _ => by simp [PyData.eqvAll]
  | _ :: _, [] => by simp [PyData.eqvAll]
  | x :: xs, y :: ys => by
    have ih := eqvAll_ints xs ys
    rw [List.map_cons, List.map_cons, PyData.eqvAll, ih, PyData.eqv]
    by_cases e : x = y <;> by_cases e2 : xs = ys <;> simp [e, e2]
theorem eqv_dI (r r' : List Int) : PyData.eqv (dI r) (dI r') = decide (r = r') := by rw [PyData.eqv]; exact eqvAll_ints r r'
theorem eqv_dL (r r' : List Int) : PyData.eqv (dL r) (dL r') = decide (r = r') := by rw [PyData.eqv]; exact eqvAll_ints r r'
theorem eqvAll_rows : ∀ R R' : List (List Int), PyData.eqvAll (R.map dI) (R'.map dI) = decide (R = R')
  | [], [] => by simp [PyData.eqvAll]
  | [], _ :: _ => by simp [PyData.eqvAll]
  | _ :: _, [] => by simp [PyData.eqvAll]
  | x :: xs, y :: ys => by
    have ih := eqvAll_rows xs ys
    rw [List.map_cons, List.map_cons, PyData.eqvAll, ih, eqv_dI]
    by_cases e : x = y <;> by_cases e2 : xs = ys <;> simp [e, e2]
theorem eqv_dT (R R' : List (List Int)) : PyData.eqv (dT R) (dT R') = decide (R = R') := by rw [PyData.eqv]; exact eqvAll_rows R R'
theorem eqv_dLT (R R' : List (List Int)) : PyData.eqv (dLT R) (dLT R') = decide (R = R') := by rw [PyData.eqv]; exact eqvAll_rows R R'
theorem lay_ints : ∀ r : List Int, PyData.canLayAll0 (r.map PyData.int) = true
  | [] => rfl
  | x :: xs => by rw [List.map_cons, PyData.canLayAll0, lay_ints xs]; rfl
theorem dep_ints : ∀ r : List Int, PyData.depthAll (r.map PyData.int) = 0
  | [] => rfl
  | x :: xs => by rw [List.map_cons, PyData.depthAll, dep_ints xs]; rfl
theorem dep_dI (r : List Int) : (dI r).depth = 1 := by rw [PyData.depth, dep_ints]
theorem lay_rows : ∀ R : List (List Int), PyData.canLayAll0 (R.map dI) = true
  | [] => rfl
  | x :: xs => by rw [List.map_cons, PyData.canLayAll0, lay_rows xs, PyData.canLay0, lay_ints]; rfl
theorem dep_rows : ∀ R : List (List Int), PyData.depthAll (R.map dI) ≤ 1
  | [] => by simp [PyData.depthAll]
  | x :: xs => by
    have ih := dep_rows xs
    rw [List.map_cons, PyData.depthAll, dep_dI]; omega
theorem sh_dI (r : List Int) : SeqAt.shaped (dI r) = true := by
  unfold SeqAt.shaped
  rw [PyData.canLay0, lay_ints, dep_dI]; rfl
theorem sh_dL (r : List Int) : SeqAt.shaped (dL r) = true := by
  unfold SeqAt.shaped
  rw [PyData.canLay0, lay_ints, PyData.depth, dep_ints]; rfl
theorem dep_dT (R : List (List Int)) : (dT R).depth ≤ 2 := by
  have := dep_rows R
  rw [PyData.depth]; omega
theorem sh_dT (R : List (List Int)) : SeqAt.shaped (dT R) = true := by
  have := dep_rows R
  unfold SeqAt.shaped
  rw [PyData.canLay0, lay_rows, PyData.depth, decide_eq_true (show PyData.depthAll (R.map dI) + 1 ≤ 64 by omega)]; rfl
theorem sh_dLT (R : List (List Int)) : SeqAt.shaped (dLT R) = true := by
  have := dep_rows R
  unfold SeqAt.shaped
  rw [PyData.canLay0, lay_rows, PyData.depth, decide_eq_true (show PyData.depthAll (R.map dI) + 1 ≤ 64 by omega)]; rfl
/-! their order -/
theorem alike_ints : ∀ r r' : List Int, PySem.W.alikeAll (r.map PyData.int) (r'.map PyData.int) = true
  | [], r' => by rw [List.map_nil]; unfold PySem.W.alikeAll; rfl
  | _ :: _, [] => by rw [List.map_cons, List.map_nil]; unfold PySem.W.alikeAll; rfl
  | x :: xs, y :: ys => by rw [List.map_cons, List.map_cons, PySem.W.alikeAll, alike_ints xs ys]; rfl
theorem alike_dI (r r' : List Int) : PySem.W.alike (dI r) (dI r') = true := by rw [PySem.W.alike]; exact alike_ints r r'
theorem alike_rows : ∀ R R' : List (List Int), PySem.W.alikeAll (R.map dI) (R'.map dI) = true
  | [], R' => by rw [List.map_nil]; unfold PySem.W.alikeAll; rfl
  | _ :: _, [] => by rw [List.map_cons, List.map_nil]; unfold PySem.W.alikeAll; rfl
  | x :: xs, y :: ys => by rw [List.map_cons, List.map_cons, PySem.W.alikeAll, alike_rows xs ys, alike_dI]; rfl
theorem alike_dT (R R' : List (List Int)) : PySem.W.alike (dT R) (dT R') = true := by rw [PySem.W.alike]; exact alike_rows R R'
theorem lt_dI (r r' : List Int) : PySem.W.dataLt (dI r) (dI r') = lt1 r r' := by
  rw [PySem.W.dataLt_tuple]
  induction r generalizing r' with
  | nil =>
    cases r' with
    | nil => rfl
    | cons y ys => rfl
  | cons x xs ih =>
    cases r' with
    | nil => rfl
    | cons y ys =>
      show _ = (if x = y then lt1 xs ys else lt0 x y)
      rw [List.map_cons, List.map_cons]
      by_cases e : x = y
      · rw [if_pos e, PySem.W.dataLt_all_yes (by rfl) (by rw [PyData.eqv, e]; simp), ih]
      · rw [if_neg e, PySem.W.dataLt_all_no (by rfl) (by rw [PyData.eqv]; simp [e]), PySem.W.dataLt_int]; rfl
theorem lt_dT (R R' : List (List Int)) : PySem.W.dataLt (dT R) (dT R') = lt2 R R' := by
  rw [PySem.W.dataLt_tuple]
  induction R generalizing R' with
  | nil =>
    cases R' with
    | nil => rfl
    | cons y ys => rfl
  | cons x xs ih =>
    cases R' with
    | nil => rfl
    | cons y ys =>
      show _ = (if x = y then lt2 xs ys else lt1 x y)
      rw [List.map_cons, List.map_cons]
      by_cases e : x = y
      · rw [if_pos e, PySem.W.dataLt_all_yes (alike_dI x y) (by rw [eqv_dI, decide_eq_true e]), ih]
      · rw [if_neg e, PySem.W.dataLt_all_no (alike_dI x y) (by rw [eqv_dI, decide_eq_false e]), lt_dI]

section
variable {K : PySem.W.Frag} {H : Hp}
theorem dpAll_ints : ∀ ns : List Int, DpAll K H (vI ns) (ns.map PyData.int)
  | [] => .nil
  | x :: xs => .cons (.int x) (dpAll_ints xs)
theorem dp_tI {a : Addr} {r : List Int} (h : tI H a r) : Dp K H (.ref a) (dI r) := .tup (SqT.of h) (dpAll_ints r)
theorem dp_lI {a : Addr} {r : List Int} (h : lI H a r) : Dp K H (.ref a) (dL r) := .lst (SqL.of h) (dpAll_ints r)
theorem dpAll_rows : ∀ (as : List Addr) (R : List (List Int)), Rws tI H as R → DpAll K H (vR as) (R.map dI)
  | [], [], _ => .nil
  | a :: as, r :: R, h => .cons (dp_tI (h.at_ 0 a r rfl rfl)) (dpAll_rows as R ⟨by simpa using h.len, fun i b s h1 h2 => h.at_ (i + 1) b s (by simpa using h1) (by simpa using h2)⟩)
  | [], _ :: _, h => by have := h.len; simp at this
  | _ :: _, [], h => by have := h.len; simp at this
theorem dp_dT {a : Addr} {as : List Addr} {R : List (List Int)} (h : H a = some (.tup (vR as))) (r : Rws tI H as R) : Dp K H (.ref a) (dT R) := .tup (SqT.of h) (dpAll_rows as R r)
theorem dp_dLT {a : Addr} {as : List Addr} {R : List (List Int)} (h : H a = some (.lst (vR as))) (r : Rws tI H as R) : Dp K H (.ref a) (dLT R) := .lst (SqL.of h) (dpAll_rows as R r)
end

/-! ### the rules -/
section
variable {X : Cx}
/-- a < b of alike data -/
def rLtD (K : PySem.W.Frag) : R2 := fun x y H Q => ∃ d e, Dp K H x d ∧ Dp K H y e ∧ PySem.W.alike d e = true ∧ d ≠ .none ∧ d.depth ≤ 64 ∧ Q (.bl (PySem.W.dataLt d e)) H
theorem op_ltD (hu : X.A.units + 64 < cLine) : OpR X (compareOp .Lt) (rLtD X.K) := by
  intro pins s σ H x y v u Q I rx ry h
  obtain ⟨d, e, hd, he, ha, hn, h64, q⟩ := h
  obtain ⟨as, r1⟩ := Dp.reads I d x v hd rx
  obtain ⟨bs, r2⟩ := Dp.reads I e y u he ry
  have hu2 : X.A.units + min d.depth e.depth < cLine := by omega
  have z := PySem.W.rcLt_alike d e X.A s v u as bs r1 r2 ha hn hu2 X.prog X.w X.xe (EP X pins σ Q) ⟨.bl _, H, I, rfl, q⟩
  exact z
/-- min of a list of tuples of numbers -/
def rMinT (K : PySem.W.Frag) : List V → Hp → VK → Prop := fun vs H Q => ∃ (a : Addr) (ts : List Addr) (ks : List (List Int)), vs = [.ref a] ∧ SqL K H a (vR ts) ∧ Rws tI H ts ks ∧ 0 < ks.length ∧
  ∀ (i : Nat) (t : Addr), ts[i]? = some t → i < ks.length → (∀ j, j < ks.length → lt1 (ks.getD j []) (ks.getD i []) = false) → Q (.ref t) H
theorem cr_minT (hc : X.calm = true) (hu : X.A.units + 64 < cLine) : CallR X (.builtin "min") (rMinT X.K) := by
  intro pins s σ H vs us Q I r h
  obtain ⟨a, ts, ks, rfl, hs, hr, hne, q⟩ := h
  obtain ⟨its, rv, hl, _⟩ := I.list hs
  rw [Vals.ref1 r]
  have hlen : its.length = ks.length := by rw [← rv.length, vR_len, hr.len]
  have hsz : its.toArray.size = ks.length := by rw [List.size_toArray, hlen]
  have item : ∀ i v, its.toArray[i]? = some v → ∃ t, ts[i]? = some t ∧ v = .ref t ∧ i < ks.length ∧ H t = some (.tup (vI (ks.getD i []))) := fun i v hv => by
    have hv' : its[i]? = some v := by simpa using hv
    have hi : i < ks.length := by rw [← hlen]; exact (List.getElem?_eq_some_iff.mp hv').1
    obtain ⟨t, h1, h2⟩ := hr.get hi
    obtain ⟨u, h3, h4⟩ := rv.get (vR_at h1)
    rw [hv'] at h3
    cases h3
    exact ⟨t, h1, h4, hi, h2⟩
  have rd : ∀ t k (h : Heap), H t = some (.tup (vI k)) → (∀ b o, s.heap.get? b = some o → h.get? b = some o) → ∃ as, Reads h (.ref t) (dI k) as := fun t k h ht hk => by
    obtain ⟨as, q⟩ := Dp.reads (I.kept (t' := s.toks) (h' := h) hk) (dI k) (.ref t) (.ref t) (dp_tI ht) rfl
    exact ⟨as, q⟩
  refine K7M.min_by (I.ok.hd hc) hl.isList (by rw [hsz]; exact hne) (fun i j => lt1 (ks.getD i []) (ks.getD j [])) ?_ ?_
  · intro i j vi vj s' Q' E' hk hi hj hq
    obtain ⟨t, h1, rfl, h3, h4⟩ := item i vi hi
    obtain ⟨t', h1', rfl, h3', h4'⟩ := item j vj hj
    obtain ⟨as, r1⟩ := rd t _ s'.heap h4 hk
    obtain ⟨bs, r2⟩ := rd t' _ s'.heap h4' hk
    have hu2 : X.A.in1.units + min (dI (ks.getD i [])).depth (dI (ks.getD j [])).depth < cLine := by
      rw [dep_dI, dep_dI]
      show X.A.units + 1 + min 1 1 < cLine
      omega
    have z := PySem.W.rcLt_alike (dI (ks.getD i [])) (dI (ks.getD j [])) X.A.in1 s' (.ref t) (.ref t') as bs r1 r2 (alike_dI _ _) (by intro z; cases z) hu2 X.prog X.w E' Q'
    rw [lt_dI] at z
    exact z hq
  · intro v h' tk hv hk
    obtain ⟨t, h1, rfl, h3, h4⟩ := item _ v hv
    refine ⟨.ref t, H, I.kept hk, rfl, q _ t h1 h3 fun j hj => ?_⟩
    have b := argBest_least sto1 (fun i => ks.getD i []) (its.toArray.size - 1)
    exact b.2 j (by rw [hsz]; omega)
end
end K7

/-! ### != of two instances of a class with an own == and the common != -/
namespace K7M
open PySem PySem.W
section
variable {prog : Program} {w : World} {A : Around} {E : Value → Shared → Prop} {s : Shared} {K : Frag} {x y C f : Addr} {ox oy : Obj} {od od' : Option Obj}
theorem boundB {M : Model} {name : Str} {id T : String} {args : List Value} {Q : Option Value → Shared → Prop} (X : K.In s.heap) (I : InstAt s.heap x ox C od) (hs : findIn K (.ref C) name = some (some (.builtin id))) (S : Slot T name id)
    (h : wpAny M A (call (.builtin id) (.ref x :: args)) (fun v => Q (some v)) E s) : wpAny M A (callSpecialIfBound? (.ref x) name args) Q E s := by
  simp only [callSpecialIfBound?, bindSpecialIfBound?]
  refine wpAny_holding (wpAny_bind (wpAny_bind (wpAny_bind (I.type.here ((looks_findIn X hs).here ?_)))))
  have fin : wpAny M A (call (.builtin id) ([.ref x] ++ args) >>= fun v => pure (some v)) Q E s := wpAny_bind (wpAny_mono h (fun v s' q => wpAny_pure q) fun _ _ q => q)
  refine wpAny_bind (wpAny_askSetting (wpAny_ite ?_))
  split
  · exact wpAny_bind (wpAny_of_eq (S.bind _) (wpAny_pure (by exact fin)))
  · exact wpAny_tryCatch (wpAny_bind (wpAny_of_eq (S.bind _) (wpAny_pure (by exact fin))))
theorem ne_own {Q : Value → Shared → Prop} (hu : A.units + 1 < cLine) (X : K.In s.heap) (I : InstAt s.heap x ox C od) (I' : InstAt s.heap y oy C od') (hne : findIn K (.ref C) "__ne__" = some (some (.builtin "object.__ne__")))
    (he : findIn K (.ref C) "__eq__" = some (some (.ref f))) (hf : isFn K (.ref f) = true) (ho : subIn K (.ref C) (.type "object") = some true)
    (hcall : wpAny (model prog w) A.in1 (call (.ref f) [.ref x, .ref y]) (fun v s' => ∃ b, v = .bool b ∧ Q (.bool (!b)) s') E s) : wpAny (model prog w) A (richCompare .NotEq (.ref x) (.ref y)) Q E s := by
  have inst : Looks (model prog w) s.heap (isInstance (.ref x) (.type "object")) true := by
    unfold isInstance
    exact I.type.andThen (looks_subIn X ho)
  have one : wpAny (model prog w) A (tryCompare (.ref x) "__ne__" (.ref y)) (fun r s' => ∃ b, r = some (.bool (!b)) ∧ Q (.bool (!b)) s') E s := by
    simp only [tryCompare]
    refine wpAny_bind (boundB X I hne F.cmp_object.ne (wpAny_call (codeAny_call_builtin F.cmp_object.ne.plain F.cmpEntry_ne (check_slot F.cmpKind_ne F.cmpSplit_ne inst (F.cmpArgs_ne _ _) ?_))))
    unfold Builtin.«object.__ne__»
    repeat (first
      | with_reducible refine wpAny_cRoomFor hu ?_
      | (refine wpAny_bind (m := callSpecialIfBound? (.ref x) (Str.ofString "__eq__") [.ref y]) (ifBound_K X I he hf (wpAny_mono hcall (fun r s' hr => ?_) fun _ _ e => e)))
      | wp_step)
    obtain ⟨b, rfl, hq⟩ := hr
    repeat (first | (refine wpAny_bind (m := truthy (.bool _)) (wpAny_truthy_bool ?_)) | wp_step)
    first
      | exact wpAny_pure ⟨b, rfl, hq⟩
      | exact ⟨b, rfl, hq⟩
  unfold richCompare
  simp only [oneThing_ref]
  refine wpAny_holding ?_
  refine wpAny_bind (wpAny_cRoomFor (Nat.lt_of_succ_lt hu) ?_)
  rw [cmpInfo_NotEq]
  dsimp only
  refine wpAny_bind (I.type.here (wpAny_bind (I'.type.here ?_)))
  rw [show (Value.ref C != Value.ref C) = false from by simp]
  simp only [Bool.false_eq_true, if_false]
  refine wpAny_bind (wpAny_pure ?_)
  simp only [Bool.false_eq_true, if_false]
  refine wpAny_bind (wpAny_mono one (fun r s' hr => ?_) fun _ _ e => e)
  obtain ⟨b, rfl, hq⟩ := hr
  exact wpAny_pure hq
end
end K7M

namespace K7
open PySem L2
/-- what isinstance asks of the class Company -/
structure TxI (K : PySem.W.Frag) (C : Addr) : Prop where
  ha : PySem.W.findIn K (.ref C) "__class__" = some (some (.builtin "object.__class__"))
  hn : PySem.W.specialIn K (.builtin "object.__class__") "__get__" = some (some (.builtin "getset_descriptor.__get__"))
  htk : PySem.W.takesIn K (.builtin "object.__class__") = some true
  hm : PySem.W.mroIn K C (.type "object") = some true
  kit : PySem.W.kitOne K (.ref C) (.ref C) = some true
section
variable {P : Program} {w : World} {K : PySem.W.Frag} {mg : Str → Option Value} {base : Heap}
/-! ### Company's == -/
def spCEq (C CT : Addr) : Sp := fun vs H Q _ => ∃ (p q : Addr) (bk bk' g g' : List Int) (R R' : List (List Int)), vs = [.ref p, .ref q] ∧ CompAt C CT H p bk g R ∧ CompAt C CT H q bk' g' R' ∧ Q (.bl (decide (bk = bk') && (decide (g = g') && decide (R = R')))) H
theorem scCEq : FnScope ["self", "other"] ["self", "other"] (defScope sCEq) := ⟨rfl, rfl, rfl, by decide +kernel, rfl, by decide +kernel, by decide +kernel⟩
theorem ok_cEq {f C CT : Addr} {fd : FuncData} (F : Fun K "__eq__" "Company.__eq__" sCEq f fd) (T : TxC K mg C) (TT : TxT K mg CT) (TI : TxI K C) (B : Blt mg) : FnOk P w K mg base CX0 1 f fd ["self", "other"] (spCEq C CT) := by
  refine F.ok scCEq (fun vs H Q E h => ?_) (fun cdv A outer s H vs Q E hr h => ?_)
  · obtain ⟨p, q, bk, bk', g, g', R, R', rfl, _⟩ := h
    rfl
  · obtain ⟨p, q, bk, bk', g, g', R, R', rfl, ⟨dx, tt, gt, rt, rs, h1, ⟨td, bt, h2, h3⟩, h4, h5, h6⟩, ⟨dx', tt', gt', rt', rs', h1', ⟨td', bt', h2', h3'⟩, h4', h5', h6'⟩, k⟩ := h
    refine ⟨_, pss_one (ps_ret (pe_and (pe_b call_isi B.isinstance PyProof.Rows.boot_isinstance (pa_cons (pv 1) (pa_cons (pe_glob (v := .ref C) (by rfl) T.mgC rfl) pa_nil)))
      (pe_and (pe_cmpR (op_eqD hr.units) (pe_fld (pe_fld (pv 0) rfl) rfl) (pe_fld (pe_fld (pv 1) rfl) rfl) (nomark _))
      (pe_and (pe_cmpR (op_eqD hr.units) (pe_fld (pv 0) rfl) (pe_fld (pv 1) rfl) (nomark _))
      (pe_one (pe_cmpR (op_eqD hr.units) (pe_fld (pv 0) rfl) (pe_fld (pv 1) rfl) (nomark _))))))), ?_⟩
    refine ⟨_, rfl, _, _, _, _, true, rfl, .own C, .base (.ins h1' T.cl TI.ha TI.hn TI.htk TI.hm), TI.kit, _, rfl, iteT ?_⟩
    refine ⟨_, rfl, p, C, dx, _, _, rfl, h1, T.cl, T.nT, cfs_ties _ _ _, tt, CT, td, _, _, rfl, h2, TT.cl, TT.nB, tfs_backs _ _, ?_⟩
    refine ⟨_, rfl, q, C, dx', _, _, rfl, h1', T.cl, T.nT, cfs_ties _ _ _, tt', CT, td', _, _, rfl, h2', TT.cl, TT.nB, tfs_backs _ _, ?_⟩
    refine ⟨dI bk, dI bk', dp_tI h3, dp_tI h3', sh_dI _, sh_dI _, _, rfl, ?_⟩
    rw [eqv_dI]
    by_cases e1 : bk = bk'
    · rw [decide_eq_true e1] at k ⊢
      refine iteT ⟨_, rfl, p, C, dx, _, _, rfl, h1, T.cl, T.nG, cfs_guests _ _ _, _, rfl, q, C, dx', _, _, rfl, h1', T.cl, T.nG, cfs_guests _ _ _, dI g, dI g', dp_tI h4, dp_tI h4', sh_dI _, sh_dI _, _, rfl, ?_⟩
      rw [eqv_dI]
      by_cases e2 : g = g'
      · rw [decide_eq_true e2] at k ⊢
        refine iteT ⟨_, rfl, p, C, dx, _, _, rfl, h1, T.cl, T.nR, cfs_rows _ _ _, _, rfl, q, C, dx', _, _, rfl, h1', T.cl, T.nR, cfs_rows _ _ _, dT R, dT R', dp_dT h5 h6, dp_dT h5' h6', sh_dT _, sh_dT _, ?_⟩
        rw [eqv_dT]
        simpa using k
      · rw [decide_eq_false e2] at k ⊢
        exact iteF (by simpa using k)
    · rw [decide_eq_false e1] at k ⊢
      exact iteF (by simpa using k)
end

/-! ### what the class gives to len, ==, != -/
structure ClsO (P : Program) (w : World) (K : PySem.W.Frag) (mg : Str → Option Value) (base : Heap) (C CT : Addr) : Prop where
  len : ∃ (f : Addr) (fd : FuncData), FnOk P w K mg base CX0 1 f fd ["self"] (spCLen C CT) ∧ PySem.W.findIn K (.ref C) "__len__" = some (some (.ref f)) ∧ PySem.W.isFn K (.ref f) = true ∧ Binds K fd ["self"] []
  eq : ∃ (f : Addr) (fd : FuncData), FnOk P w K mg base CX0 1 f fd ["self", "other"] (spCEq C CT) ∧ PySem.W.findIn K (.ref C) "__eq__" = some (some (.ref f)) ∧ PySem.W.isFn K (.ref f) = true ∧ Binds K fd ["self", "other"] []
  ne : PySem.W.findIn K (.ref C) "__ne__" = some (some (.builtin "object.__ne__"))
  ob : PySem.W.subIn K (.ref C) (.type "object") = some true
section
variable {X : Cx} {C CT : Addr} {k : Nat}
theorem comp_inst {pins : List (Addr × Obj)} {σ : L2.St} {H : Hp} {s : Shared} {p : Addr} {bk g : List Int} {R : List (List Int)} (I : Inv X pins σ H s) (h : CompAt C CT H p bk g R) : ∃ ox od, PySem.W.InstAt s.heap p ox C od := by
  obtain ⟨dx, tt, gt, rt, rs, h1, _⟩ := h
  obtain ⟨mA, J, _⟩ := ins_get I.hok h1
  obtain ⟨od, J, _⟩ := J.look
  exact ⟨_, _, J⟩
def rLenO (C CT : Addr) : List V → Hp → VK → Prop := fun vs H Q => ∃ (p : Addr) (bk g : List Int) (R : List (List Int)), vs = [.ref p] ∧ CompAt C CT H p bk g R ∧ g.length ≤ 60 ∧ Q (.int g.length) H
theorem call_lenO (O : ClsO X.prog X.w X.K X.mg X.base C CT) (hr : Room (k + 2) X.A) : CallR X (.builtin "len") (rLenO C CT) := by
  intro pins s σ H vs us Q I r h
  obtain ⟨p, bk, g, R, rfl, hc, h60, q⟩ := h
  obtain ⟨u, rfl, ru⟩ := vals1 r
  obtain rfl : u = Value.ref p := ru
  obtain ⟨f, fd, F, hs, hf, hb⟩ := O.len
  obtain ⟨ox, od, J⟩ := comp_inst I hc
  obtain ⟨m, hF⟩ := I.fr
  refine PySem.W.len_K hF I.ok.mod.kin J hs hf ?_
  have hsp : spCLen C CT [.ref p] H (fun v H' => v = .int g.length ∧ H' = H) E0 := ⟨p, bk, g, R, rfl, hc, rfl, rfl⟩
  have e0 := I.env0
  have e1 : Env0 X.prog X.w X.K X.mg X.base X.A.in1 X.stack s H := ⟨e0.frames, e0.mod, e0.bs, e0.bsz, e0.funs, e0.frf, e0.hok, e0.bare⟩
  have hr1 : Room 1 X.A.in1 := (hr.mono (by omega : 1 + 1 ≤ k + 2)).in1
  refine wpAny_call (codeAny_mono (F.run X.A.in1 X.stack s H ⟨[.ref p], []⟩ [.ref p] [.ref p] _ E0 hr1 e1 (by
    have := hb s [.ref p] I.kIn (by rfl)
    simpa using this) (.cons rfl .nil) hsp) fun r s' hq => ?_)
  cases r with
  | error e => exact False.elim hq
  | ok fl =>
    cases fl with
    | ret v =>
      obtain ⟨z, H', I', rz, ez, eH⟩ := I.after hq
      subst ez eH
      obtain ⟨t, rfl⟩ := rz
      refine ⟨⟨by omega, by omega⟩, ?_⟩
      exact ⟨.int g.length, H', I'.tok _, ⟨_, rfl⟩, q⟩
    | next => exact False.elim hq
    | brk => exact False.elim hq
    | cont => exact False.elim hq
theorem run_cEq (O : ClsO X.prog X.w X.K X.mg X.base C CT) {f : Addr} {fd : FuncData} (F : FnOk X.prog X.w X.K X.mg X.base CX0 1 f fd ["self", "other"] (spCEq C CT)) (hb : Binds X.K fd ["self", "other"] []) {A : Around} (hA : Room 1 A) (hfr : A.frames = X.A.frames)
    {pins : List (Addr × Obj)} {σ : L2.St} {H : Hp} {s : Shared} {p q : Addr} {bk bk' g g' : List Int} {R R' : List (List Int)} (I : Inv X pins σ H s) (h1 : CompAt C CT H p bk g R) (h2 : CompAt C CT H q bk' g' R') {Q : Value → Shared → Prop} {E : Value → Shared → Prop}
    (hq : ∀ s', Inv X pins σ H s' → Q (.bool (decide (bk = bk') && (decide (g = g') && decide (R = R')))) s') : wpAny (model X.prog X.w) A (call (.ref f) [.ref p, .ref q]) Q E s := by
  have hsp : spCEq C CT [.ref p, .ref q] H (fun v H' => v = .bl (decide (bk = bk') && (decide (g = g') && decide (R = R'))) ∧ H' = H) E0 := ⟨p, q, bk, bk', g, g', R, R', rfl, h1, h2, rfl, rfl⟩
  have e0 := I.env0
  have e1 : Env0 X.prog X.w X.K X.mg X.base A X.stack s H := ⟨by rw [hfr]; exact e0.frames, e0.mod, e0.bs, e0.bsz, e0.funs, e0.frf, e0.hok, e0.bare⟩
  refine wpAny_call (codeAny_mono (F.run A X.stack s H ⟨[.ref p, .ref q], []⟩ [.ref p, .ref q] [.ref p, .ref q] _ E0 hA e1 (by
    have := hb s [.ref p, .ref q] I.kIn (by rfl)
    simpa using this) (.cons rfl (.cons rfl .nil)) hsp) fun r s' hr => ?_)
  cases r with
  | error e => exact False.elim hr
  | ok fl =>
    cases fl with
    | ret v =>
      obtain ⟨z, H', I', rz, ez, eH⟩ := I.after hr
      subst ez eH
      cases rz
      exact hq s' I'
    | next => exact False.elim hr
    | brk => exact False.elim hr
    | cont => exact False.elim hr
def rEqO (C CT : Addr) (neg : Bool) : R2 := fun x y H Q => ∃ (p q : Addr) (bk bk' g g' : List Int) (R R' : List (List Int)), x = .ref p ∧ y = .ref q ∧ CompAt C CT H p bk g R ∧ CompAt C CT H q bk' g' R' ∧
  Q (.bl (if neg then !(decide (bk = bk') && (decide (g = g') && decide (R = R'))) else (decide (bk = bk') && (decide (g = g') && decide (R = R'))))) H
theorem op_eqO (O : ClsO X.prog X.w X.K X.mg X.base C CT) (hr : Room (k + 1) X.A) : OpR X (compareOp .Eq) (rEqO C CT false) := by
  intro pins s σ H x y v u Q I rx ry h
  obtain ⟨p, q, bk, bk', g, g', R, R', rfl, rfl, h1, h2, hq⟩ := h
  obtain rfl : v = Value.ref p := rx
  obtain rfl : u = Value.ref q := ry
  obtain ⟨f, fd, F, hs, hf, hb⟩ := O.eq
  obtain ⟨ox, od, J⟩ := comp_inst I h1
  obtain ⟨ox', od', J'⟩ := comp_inst I h2
  obtain ⟨m, hF⟩ := I.fr
  have z : wpAny (model X.prog X.w) X.A (richCompare .Eq (.ref p) (.ref q)) (EP X pins σ Q) X.xe s := by
    refine PySem.W.cmp_K (op := .Eq) (tb := .ref C) hr.units0 hF I.ok.mod.kin J J'.type (by simp [PySem.W.notFirst]) hs hf ?_
    exact run_cEq O F hb (hr.mono (by omega)) rfl I h1 h2 fun s' I' => ⟨.bl _, H, I', rfl, hq⟩
  exact z
theorem op_neO (O : ClsO X.prog X.w X.K X.mg X.base C CT) (hr : Room (k + 2) X.A) : OpR X (compareOp .NotEq) (rEqO C CT true) := by
  intro pins s σ H x y v u Q I rx ry h
  obtain ⟨p, q, bk, bk', g, g', R, R', rfl, rfl, h1, h2, hq⟩ := h
  obtain rfl : v = Value.ref p := rx
  obtain rfl : u = Value.ref q := ry
  obtain ⟨f, fd, F, hs, hf, hb⟩ := O.eq
  obtain ⟨ox, od, J⟩ := comp_inst I h1
  obtain ⟨ox', od', J'⟩ := comp_inst I h2
  have z : wpAny (model X.prog X.w) X.A (richCompare .NotEq (.ref p) (.ref q)) (EP X pins σ Q) X.xe s := by
    refine K7M.ne_own (hu_of hr) I.kIn J J' O.ne hs hf O.ob ?_
    exact run_cEq O F hb (hr.mono (by omega : 1 + 1 ≤ k + 2)).in1 rfl I h1 h2 fun s' I' => ⟨_, rfl, .bl _, H, I', rfl, hq⟩
  exact z
end
end K7

namespace K7
open PySem L2
theorem inV_ints (k : Int) : ∀ ns : List Int, inV (.int k) (vI ns) = decide (k ∈ ns)
  | [] => rfl
  | x :: xs => by
    have ih := inV_ints k xs
    unfold inV at ih ⊢
    rw [vI, List.map_cons, List.any_cons, ih]
    show ((x == k) || decide (k ∈ xs)) = _
    by_cases e : x = k
    · subst e; simp
    · have e' : ¬ k = x := fun z => e z.symm
      have e2 : (x == k) = false := by simpa using e
      rw [e2, Bool.false_or]
      simp [e']
theorem mem_iN {o : List Nat} {q : Nat} : ((q : Nat) : Int) ∈ iN o ↔ q ∈ o := by
  constructor
  · intro h
    obtain ⟨a, ha, e⟩ := List.mem_map.mp h
    have : a = q := by omega
    exact this ▸ ha
  · exact fun h => List.mem_map.mpr ⟨q, h, rfl⟩
theorem flat_ints : ∀ ns : List Int, (vI ns).all flatV = true
  | [] => rfl
  | _ :: xs => by rw [vI, List.map_cons, List.all_cons, flat_ints xs]; rfl
theorem iN_len (o : List Nat) : (iN o).length = o.length := List.length_map _
theorem iN_getD {o : List Nat} {i : Nat} (h : i < o.length) : (iN o).getD i 0 = ((o.getD i 0 : Nat) : Int) := by simp [h]

/-- what a company's ties are read by -/
structure MethO (P : Program) (w : World) (K : PySem.W.Frag) (mg : Str → Option Value) (base : Heap) (C CT : Addr) : Prop where
  tie : ∃ (f : Addr) (fd : FuncData), FnOk P w K mg base CX0 1 f fd ["self", "one", "other"] (spTieAt C CT) ∧ Meth K C "tie_at" f ∧ Binds K fd ["self", "one", "other"] []
theorem no_tieAt (t g r : Addr) : (cfs t g r).lookup ("tie_at" : Str) = none := cfs_no t g r (by decide +kernel) (by decide +kernel) (by decide +kernel)
theorem CoM.ins {C CT : Addr} {H : Hp} {p : Addr} {bk : List Int} {n : Nat} {M : Mx} (h : CoM C CT H p bk n M) : ∃ dx tt gt rt, H p = some (.ins C dx (cfs tt gt rt)) := by
  obtain ⟨_, _, g, _, dx, tt, gt, rt, rs, h1, _⟩ := h
  exact ⟨dx, tt, gt, rt, h1⟩
theorem CoM.comp {C CT : Addr} {H : Hp} {p : Addr} {bk : List Int} {n : Nat} {M : Mx} (h : CoM C CT H p bk n M) : ∃ g, g.length = n ∧ CompAt C CT H p bk g (rowsM M n) := by
  obtain ⟨_, _, g, h1, h2⟩ := h
  exact ⟨g, h1, h2⟩

section
variable {P : Program} {w : World} {K : PySem.W.Frag} {mg : Str → Option Value} {base : Heap}
/-! ### TooMany(count), _limit -/
structure TxM (K : PySem.W.Frag) (mg : Str → Option Value) (CM fM : Addr) : Prop where
  oex : OexC K CM
  no : PySem.W.findIn K (.ref CM) "count" = some none
  init : PySem.W.findIn K (.ref CM) "__init__" = some (some (.ref fM))
  ty : PySem.W.typeIn K (.ref fM) = some (.type "function")
  mgM : mg "TooMany" = some (.ref CM)
abbrev sTooMany : Stmt := inClass (topS 6) 0
def spTM (CM : Addr) : Sp := fun vs H Q _ => ∃ (a : Addr) (n : Int), vs = [.ref a, .int n] ∧ H a = some (exo a CM none) ∧ ∀ d, H d = none → d ≠ a → Q .non (upd (upd H d (exd d [("count", .int n)])) a (exo a CM (some d)))
theorem scTM : FnScope ["self", "count"] ["self", "count"] (defScope sTooMany) := ⟨rfl, rfl, rfl, by decide +kernel, rfl, by decide +kernel, by decide +kernel⟩
theorem ok_tm {fM CM : Addr} {fd : FuncData} (F : Fun K "__init__" "TooMany.__init__" sTooMany fM fd) (T : TxM K mg CM fM) : FnOk P w K mg base CX0 1 fM fd ["self", "count"] (spTM CM) := by
  refine F.ok scTM (fun vs H Q E h => ?_) (fun cdv A outer s H vs Q E hr h => ?_)
  · obtain ⟨a, n, rfl, _⟩ := h
    rfl
  · obtain ⟨a, n, rfl, ha, k⟩ := h
    refine ⟨_, pss_one (ps_ost (pv 0) (pv 1)), ?_⟩
    exact ⟨_, rfl, _, rfl, a, CM, rfl, T.oex, T.no, .inl ⟨ha, fun d h1 h2 => k d h1 h2⟩⟩
def spLimit (C CT CM : Addr) : Sp := fun vs H Q E => ∃ (p : Addr) (bk g : List Int) (R : List (List Int)), vs = [.ref p] ∧ CompAt C CT H p bk g R ∧ g.length ≤ 60 ∧ (g.length ≤ 7 → Q .non H) ∧
  (7 < g.length → ∀ (d : Addr) (H' : Hp), Same H H' → H' d = some (.xd [("count", .int g.length)]) → E (.ref CM) (some d) H')
theorem scLimit : FnScope ["company"] ["company"] (defScope sLimit) := ⟨rfl, rfl, rfl, by decide +kernel, rfl, by decide +kernel, by decide +kernel⟩
theorem ok_limit {f C CT CM fM : Addr} {fd fdM : FuncData} (F : Fun K "_limit" "_limit" sLimit f fd) (B : Blt mg) (Ct : Cst mg) (O : ClsO P w K mg base C CT) (TM : TxM K mg CM fM) (FM : FnOk P w K mg base CX0 1 fM fdM ["self", "count"] (spTM CM)) (bM : Binds K fdM ["self", "count"] []) :
    FnOk P w K mg base (L2.CX P w) 3 f fd ["company"] (spLimit C CT CM) := by
  refine F.okX scLimit (fun vs H Q E h => ?_) (fun cdv A outer s H vs Q E hr h => ?_)
  · obtain ⟨p, bk, g, R, rfl, _⟩ := h
    rfl
  · obtain ⟨p, bk, g, R, rfl, hc, h60, k1, k2⟩ := h
    obtain ⟨t7, mg7⟩ := Ct.like
    refine ⟨_, pss_one (ps_if (pt_cmpR op_gt (pe_b (call_lenO O hr) B.len PySem.boot_len (pa_cons (pv 0) pa_nil)) (pe_glob (v := .int 7) (by rfl) mg7 ⟨_, rfl⟩) (nomark _))
      (pss_one (ps_raise rfl (takes_of rfl rfl rfl rfl) (pmk_oex TM.oex TM.init TM.ty FM hr bM .nil pass0 (by rfl) TM.mgM (pa_cons (pe_b (call_lenO O hr) B.len PySem.boot_len (pa_cons (pv 0) pa_nil)) pa_nil)))) pss_nil), ?_⟩
    refine ⟨_, rfl, p, bk, g, R, rfl, hc, h60, _, _, rfl, rfl, _, rfl, ?_⟩
    by_cases h7 : (7 : Int) < (g.length : Int)
    · rw [decide_eq_true h7]
      refine iteT ⟨_, rfl, p, bk, g, R, rfl, hc, h60, by show 1 ≤ 1000; decide, fun a ha => ⟨a, _, rfl, upd_same, fun d hd hda => ⟨rfl, d, [("count", .int g.length)], upd_same, ?_, ?_, ?_⟩⟩⟩
      · rw [upd_ne hda, upd_same]
      · rw [upd_ne hda] at hd; exact hd
      · refine k2 (by omega) d _ ?_ upd_same
        rw [upd_ne hda] at hd
        intro b o hb
        have nba : b ≠ a := ne_of_none hb ha
        have nbd : b ≠ d := ne_of_none hb hd
        rw [upd_ne nbd, del_ne nba, upd_ne nba, upd_ne nbd, upd_ne nba]
        exact hb
    · rw [decide_eq_false h7]
      exact iteF (k1 (by omega))

/-! ### _fits -/
def fitsB (M1 M2 : Mx) (p : List Nat) (q : Nat) : Bool := decide (q ∉ p) && (List.range p.length).all fun j => decide (M1 p.length j = M2 q (p.getD j 0))
theorem fitsB_iff {M1 M2 : Mx} {p : List Nat} {q : Nat} : fitsB M1 M2 p q = true ↔ Fits M1 M2 p q := by
  unfold fitsB Fits
  rw [Bool.and_eq_true, decide_eq_true_iff, List.all_eq_true]
  exact ⟨fun h => ⟨h.1, fun j hj => of_decide_eq_true (h.2 j (List.mem_range.mpr hj))⟩, fun h => ⟨h.1, fun j hj => decide_eq_true (h.2 j (List.mem_range.mp hj))⟩⟩
def spFits (C CT : Addr) : Sp := fun vs H Q _ => ∃ (p1 p2 pp : Addr) (bk1 bk2 : List Int) (n : Nat) (M1 M2 : Mx) (p : List Nat) (q : Nat), vs = [.ref p1, .ref p2, .ref pp, .int q] ∧ CoM C CT H p1 bk1 n M1 ∧ CoM C CT H p2 bk2 n M2 ∧ tI H pp (iN p) ∧ Ord n p.length p ∧ p.length < n ∧ n ≤ 60 ∧ q < n ∧
  Q (.bl (fitsB M1 M2 p q)) H
theorem scFits : FnScope ["one", "other", "places", "place", "here", "ahead"] ["one", "other", "places", "place"] (defScope sFits) := ⟨rfl, rfl, rfl, by decide +kernel, rfl, by decide +kernel, by decide +kernel⟩
theorem ok_fits {f C CT : Addr} {fd : FuncData} (F : Fun K "_fits" "_fits" sFits f fd) (T : TxC K mg C) (B : Blt mg) (MO : MethO P w K mg base C CT) : FnOk P w K mg base CX0 2 f fd ["one", "other", "places", "place"] (spFits C CT) := by
  refine F.ok scFits (fun vs H Q E h => ?_) (fun cdv A outer s H vs Q E hr h => ?_)
  · obtain ⟨p1, p2, pp, bk1, bk2, n, M1, M2, p, q, rfl, _⟩ := h
    rfl
  · obtain ⟨p1, p2, pp, bk1, bk2, n, M1, M2, p, q, rfl, h1, h2, hp, hord, hlt, hn60, hq, k⟩ := h
    obtain ⟨ft, fdt, Ft, mt, bt⟩ := MO.tie
    refine ⟨_, pss_cons (ps_if (pt_cmpR op_in_seq (pv 3) (pv 2) (by rfl)) (pss_one (ps_ret pe_bl)) pss_nil)
      (pss_cons (ps_set (i := 4) scFits.nd rfl (Or.inl rfl) (pe_b call_len_seq B.len PySem.boot_len (pa_cons (pv 2) pa_nil)))
      (pss_cons (ps_for PassesOwn.never rfl (pi_range1 rfl B.range (pa_cons (pv 4) pa_nil)) (pg_name (i := 5) scFits.nd rfl (Or.inl rfl))
        (pss_one (ps_if (pt_cmpR op_ne (pe_meth (pv 0) T.cl mt Ft hr bt .nil pass0 (pa_cons (pv 4) (pa_cons (pv 5) pa_nil)))
          (pe_meth (pv 1) T.cl mt Ft hr bt .nil pass0 (pa_cons (pv 3) (pa_cons (pe_ix ix_tup (pv 2) (pv 5) (fun _ _ => rfl)) pa_nil))) (nomark _)) (pss_one (ps_ret pe_bl)) pss_nil)))
      (pss_one (ps_ret pe_bl)))), ?_⟩
    refine ⟨_, rfl, _, rfl, pp, _, rfl, .inr (SqT.of hp), rfl, flat_ints _, _, rfl, ?_⟩
    rw [if_neg Bool.false_ne_true, inV_ints]
    by_cases hm : q ∈ p
    · rw [decide_eq_true (mem_iN.mpr hm)]
      have e : fitsB M1 M2 p q = false := by unfold fitsB; simp [hm]
      rw [e] at k
      exact iteT k
    · rw [decide_eq_false (fun z => hm (mem_iN.mp z))]
      refine iteF ⟨_, rfl, _, _, rfl, .inr (SqT.of hp), ?_⟩
      rw [vI_len, iN_len]
      refine ⟨_, rfl, _, rfl, by omega, by omega, for_range (n := ((p.length : Nat) : Int).toNat) (fun i σ H' => (∃ v, σ = [some (.ref p1), some (.ref p2), some (.ref pp), some (.int q), some (.int p.length), v]) ∧ H' = H ∧ ∀ j, j < i → M1 p.length j = M2 q (p.getD j 0)) ⟨⟨_, rfl⟩, rfl, fun j hj => absurd hj (Nat.not_lt_zero _)⟩ ?_ ?_⟩
      · rintro i σ H' hi ⟨⟨v, rfl⟩, rfl, hall⟩
        have hil : i < p.length := by omega
        obtain ⟨dx1, tt1, gt1, rt1, i1⟩ := h1.ins
        obtain ⟨dx2, tt2, gt2, rt2, i2⟩ := h2.ins
        have ei : (0 : Int) + (i : Int) = (i : Int) := by omega
        have hpi : p.getD i 0 < n := hord.get hil
        have hne : q ≠ p.getD i 0 := fun z => hm (by
          rw [z]
          have e : p.getD i 0 = p[i] := by simp [hil]
          rw [e]; exact List.getElem_mem hil)
        have hat : atI (vI (iN p)) ((0 : Int) + (i : Int)) = some (.int ((p.getD i 0 : Nat) : Int)) := by
          refine at_of (j := i) ei ?_
          rw [vI_at (by rw [iN_len]; exact hil), iN_getD hil]
        refine ⟨_, rfl, p1, dx1, _, rfl, i1, no_tieAt _ _ _, _, rfl, _, rfl, p1, bk1, n, p.length, i, M1, by rw [ei]; rfl, h1, hlt, Nat.lt_trans hil hlt, by omega, ?_⟩
        refine ⟨_, rfl, p2, dx2, _, rfl, i2, no_tieAt _ _ _, _, rfl, _, rfl, _, rfl, _, _, _, _, rfl, rfl, SqT.of hp, hat, p2, bk2, n, q, p.getD i 0, M2, rfl, h2, hq, hpi, hne, rfl, _, rfl, ?_⟩
        by_cases e : M1 p.length i = M2 q (p.getD i 0)
        · rw [e, decide_eq_true rfl]
          refine iteF ⟨⟨_, rfl⟩, rfl, fun j hj => ?_⟩
          by_cases z : j = i
          · subst z; exact e
          · exact hall j (by omega)
        · rw [decide_eq_false (fun z => e (V.int.inj z))]
          have e2 : fitsB M1 M2 p q = false := by
            cases b : fitsB M1 M2 p q with
            | false => rfl
            | true => exact absurd ((fitsB_iff.mp b).2 i hil) e
          rw [e2] at k
          exact iteT k
      · rintro σ H' ⟨⟨v, rfl⟩, rfl, hall⟩
        have e2 : fitsB M1 M2 p q = true := fitsB_iff.mpr ⟨hm, fun j hj => hall j (by omega)⟩
        rw [e2] at k
        exact k

/-! ### _row_behind -/
def spRowBehind (C CT : Addr) : Sp := fun vs H Q _ => ∃ (p op : Addr) (bk : List Int) (n : Nat) (M : Mx) (o : List Nat) (q : Nat), vs = [.ref p, .ref op, .int q] ∧ CoM C CT H p bk n M ∧ tI H op (iN o) ∧ (∀ a ∈ o, a < n) ∧ o.length ≤ 1000 ∧ q < n ∧ q ∉ o ∧
  ∀ (H' : Hp) (t : Addr), Same H H' → tI H' t (o.map (M q)) → Q (.ref t) H'
abbrev nRowBehind : List Str := ["company", "order", "place", "ahead"]
theorem scRowBehind : FnScope nRowBehind ["company", "order", "place"] (defScope sRowBehind) := ⟨rfl, rfl, rfl, by decide +kernel, rfl, by decide +kernel, by decide +kernel⟩
theorem ok_rowBehind {f C CT : Addr} {fd : FuncData} (F : Fun K "_row_behind" "_row_behind" sRowBehind f fd) (T : TxC K mg C) (B : Blt mg) (MO : MethO P w K mg base C CT) : FnOk P w K mg base CX0 2 f fd ["company", "order", "place"] (spRowBehind C CT) := by
  refine F.ok scRowBehind (fun vs H Q E h => ?_) (fun cdv A outer s H vs Q E hr h => ?_)
  · obtain ⟨p, op, bk, n, M, o, q, rfl, _⟩ := h
    rfl
  · obtain ⟨p, op, bk, n, M, o, q, rfl, hc, ho, hlt, hl, hq, hn, k⟩ := h
    obtain ⟨ft, fdt, Ft, mt, bt⟩ := MO.tie
    refine ⟨_, pss_one (ps_ret (pe_t call_tuple_of B.tuple PyProof.Rows.boot_tuple (pa_cons
      (pe_lc (own := [("ahead", 3)]) (g := gName 3) (tt := tYes) (te := tMeth C "tie_at" (spTieAt C CT) [] E0 (tVar 0) (tCons (tVar 2) (tCons (tVar 3) tNil))) rfl scRowBehind.nd (pi_tup (pv 1)) (blkOk_by (N := nRowBehind) (sc := defScope sRowBehind) (by decide +kernel)) (fun _ _ _ _ _ => pg_name (i := 3) scRowBehind.nd rfl (Or.inl rfl)) (fun _ _ _ _ _ => pts_nil)
        (fun _ _ _ _ _ => pe_meth (pv 0) T.cl mt Ft hr bt .nil pass0 (pa_cons (pv 2) (pa_cons (pv 3) pa_nil)))) pa_nil))), ?_⟩
    refine ⟨_, rfl, op, rfl, ⟨_, SqT.of ho⟩, fun D hD => lc_tup (K := K) (a := op) (xs := vI (iN o)) (fun i H' => Same H H' ∧ H' D = some (.lst (vI ((o.take i).map (M q))))) ⟨Same.upd_new hD, upd_same⟩ (fun i H' _ z => SqT.of (z.1 _ _ ho)) ?_ ?_⟩
    · rintro i x H' hi ⟨s1, hDi⟩
      obtain ⟨a, ha, rfl⟩ := vI_get hi
      rw [List.getElem?_map] at ha
      obtain ⟨b, hb, rfl⟩ := Option.map_eq_some_iff.mp ha
      have hbo : b ∈ o := List.mem_of_getElem? hb
      obtain ⟨dx, tt, gt, rt, i1⟩ := (hc.same s1).ins
      have hbi : i < o.length := (List.getElem?_eq_some_iff.mp hb).1
      refine ⟨rfl, yesT ?_⟩
      refine ⟨_, rfl, p, dx, _, rfl, i1, no_tieAt _ _ _, _, rfl, _, rfl, p, bk, n, q, b, M, rfl, hc.same s1, hq, hlt b hbo, fun z => hn (z ▸ hbo), _, hDi, by rw [vI_len, List.length_map, List.length_take]; exact size_lt (by omega), Same.put s1 hD, ?_⟩
      rw [upd_same, take_snoc hb, List.map_append, vI_snoc]
      rfl
    · rintro H' ⟨s1, hDi⟩
      rw [vI_len, iN_len, List.take_length] at hDi
      refine ⟨_, _, rfl, .inl ⟨SqL.of hDi, fun t ht => k _ t (Same.new s1 ht) ?_⟩⟩
      show upd H' t _ t = _
      rw [upd_same]
end
end K7

namespace K7
open PySem L2
/-! ### steps: pairs of a row and an order -/
structure Stp (H : Hp) (sa : List Addr) (ss : List (List Int × List Nat)) : Prop where
  len : sa.length = ss.length
  at_ : ∀ (i : Nat) (c : Addr) (s : List Int × List Nat), sa[i]? = some c → ss[i]? = some s → ∃ r o, H c = some (.tup [.ref r, .ref o]) ∧ tI H r s.1 ∧ tI H o (iN s.2)
theorem Stp.nil {H : Hp} : Stp H [] [] := ⟨rfl, fun i c s h => by simp at h⟩
theorem Stp.same {H H' : Hp} {sa : List Addr} {ss : List (List Int × List Nat)} (h : Stp H sa ss) (s : Same H H') : Stp H' sa ss := ⟨h.len, fun i c x h1 h2 => by
  obtain ⟨r, o, q1, q2, q3⟩ := h.at_ i c x h1 h2
  exact ⟨r, o, s _ _ q1, s _ _ q2, s _ _ q3⟩⟩
/-- tuples outlast a list's change -/
theorem Stp.put {H : Hp} {D : Addr} {xs : List V} {o : HO} {sa : List Addr} {ss : List (List Int × List Nat)} (h : Stp H sa ss) (hD : H D = some (.lst xs)) : Stp (upd H D o) sa ss := ⟨h.len, fun i c x h1 h2 => by
  obtain ⟨r, u, q1, q2, q3⟩ := h.at_ i c x h1 h2
  refine ⟨r, u, ?_, tI_put hD _ _ q2, tI_put hD _ _ q3⟩
  rw [upd_ne (ne_of q1 hD (by intro z; cases z))]
  exact q1⟩
theorem Stp.snoc {H : Hp} {sa : List Addr} {ss : List (List Int × List Nat)} {c r o : Addr} {s : List Int × List Nat} (h : Stp H sa ss) (h1 : H c = some (.tup [.ref r, .ref o])) (h2 : tI H r s.1) (h3 : tI H o (iN s.2)) : Stp H (sa ++ [c]) (ss ++ [s]) := by
  refine ⟨by rw [List.length_append, List.length_append, h.len]; rfl, fun i d x g1 g2 => ?_⟩
  by_cases hi : i < sa.length
  · rw [List.getElem?_append_left hi] at g1
    rw [List.getElem?_append_left (by rw [← h.len]; exact hi)] at g2
    exact h.at_ i d x g1 g2
  · have hi' : i = sa.length := by
      have := (List.getElem?_eq_some_iff.mp g1).1
      rw [List.length_append, List.length_singleton] at this
      omega
    subst hi'
    have e1 : (sa ++ [c])[sa.length]? = some c := by simp
    have e2 : (ss ++ [s])[sa.length]? = some s := by rw [h.len]; simp
    rw [e1] at g1
    rw [e2] at g2
    cases g1; cases g2
    exact ⟨r, o, h1, h2, h3⟩
theorem Stp.get {H : Hp} {sa : List Addr} {ss : List (List Int × List Nat)} (h : Stp H sa ss) {i : Nat} {c : Addr} (hc : sa[i]? = some c) : ∃ s, ss[i]? = some s ∧ ∃ r o, H c = some (.tup [.ref r, .ref o]) ∧ tI H r s.1 ∧ tI H o (iN s.2) := by
  have hi : i < ss.length := by rw [← h.len]; exact (List.getElem?_eq_some_iff.mp hc).1
  exact ⟨ss[i], by simp [hi], h.at_ i c _ hc (by simp [hi])⟩
theorem steps_take {M : Mx} {n : Nat} {orders : List (List Nat)} {i : Nat} {o : List Nat} (h : orders[i]? = some o) : stepsAll M n (orders.take (i + 1)) = stepsAll M n (orders.take i) ++ stepsOne M n o := by
  unfold stepsAll
  rw [take_snoc h, List.flatMap_append]
  simp
def partOne (M : Mx) (o : List Nat) (j : Nat) : List (List Int × List Nat) := ((List.range j).filter fun p => decide (p ∉ o)).map (stepOf M o)
theorem partOne_full (M : Mx) (n : Nat) (o : List Nat) : partOne M o n = stepsOne M n o := rfl
theorem partOne_in {M : Mx} {o : List Nat} {j : Nat} (h : j ∉ o) : partOne M o (j + 1) = partOne M o j ++ [stepOf M o j] := by
  unfold partOne
  rw [List.range_succ, List.filter_append, List.map_append]
  simp [h]
theorem partOne_out {M : Mx} {o : List Nat} {j : Nat} (h : j ∈ o) : partOne M o (j + 1) = partOne M o j := by
  unfold partOne
  rw [List.range_succ, List.filter_append, List.map_append]
  simp [h]
theorem partOne_len (M : Mx) (o : List Nat) (j : Nat) : (partOne M o j).length ≤ j := by
  unfold partOne
  rw [List.length_map]
  have := List.length_filter_le (fun p => decide (p ∉ o)) (List.range j)
  rw [List.length_range] at this
  exact this

section
variable {P : Program} {w : World} {K : PySem.W.Frag} {mg : Str → Option Value} {base : Heap}
/-! ### _least_step -/
def spLeastStep (C CT : Addr) : Sp := fun vs H Q _ => ∃ (p op : Addr) (bk : List Int) (n k : Nat) (M : Mx) (orders : List (List Nat)) (os : List Addr), vs = [.ref p, .ref op] ∧ CoM C CT H p bk n M ∧ n ≤ 60 ∧ H op = some (.lst (vR os)) ∧ Rws tI H os (orders.map iN) ∧
  (∀ o ∈ orders, Ord n k o) ∧ k < n ∧ orders.length * n ≤ 1000000 ∧ stepsAll M n orders ≠ [] ∧
  ∀ (H' : Hp) (t bt lp : Addr) (os2 : List Addr) (best : List Int) (orders2 : List (List Nat)), Same H H' → H' t = some (.tup [.ref bt, .ref lp]) → tI H' bt best → H lp = none → H' lp = some (.lst (vR os2)) → Rws tI H' os2 (orders2.map iN) →
    (∃ s ∈ stepsAll M n orders, s.1 = best) → (∀ s ∈ stepsAll M n orders, lt1 s.1 best = false) → orders2 = ((stepsAll M n orders).filter fun s => decide (s.1 = best)).map (·.2) → Q (.ref t) H'
abbrev nLeastStep : List Str := ["company", "orders", "steps", "order", "place", "best", "step"]
theorem scLeastStep : FnScope nLeastStep ["company", "orders"] (defScope sLeastStep) := ⟨rfl, rfl, rfl, by decide +kernel, rfl, by decide +kernel, by decide +kernel⟩
theorem ok_leastStep {f C CT : Addr} {fd : FuncData} (F : Fun K "_least_step" "_least_step" sLeastStep f fd) (B : Blt mg) (O : ClsO P w K mg base C CT) (cR : Cal P w K mg base CX0 2 "_row_behind" ["company", "order", "place"] (spRowBehind C CT)) :
    FnOk P w K mg base CX0 3 f fd ["company", "orders"] (spLeastStep C CT) := by
  refine F.ok scLeastStep (fun vs H Q E h => ?_) (fun cdv A outer s H vs Q E hr h => ?_)
  · obtain ⟨p, op, bk, n, k, M, orders, os, rfl, _⟩ := h
    rfl
  · obtain ⟨p, op, bk, n, k, M, orders, os, rfl, hc, hn60, hop, hos, hord, hk, hsz, hne, kk⟩ := h
    obtain ⟨g0, hg0, hcomp⟩ := hc.comp
    refine ⟨_, pss_cons (ps_set (i := 2) scLeastStep.nd rfl (Or.inl rfl) (pe_lst pa_nil))
      (pss_cons (ps_for PassesOwn.never rfl (pi_list (pv 1)) (pg_name (i := 3) scLeastStep.nd rfl (Or.inl rfl))
        (pss_one (ps_for PassesOwn.never rfl (pi_range1 rfl B.range (pa_cons (pe_b (call_lenO O hr) B.len PySem.boot_len (pa_cons (pv 0) pa_nil)) pa_nil)) (pg_name (i := 4) scLeastStep.nd rfl (Or.inl rfl))
          (pss_one (ps_if (pt_cmpR op_notIn_seq (pv 4) (pv 3) (by rfl))
            (pss_one (ps_expr (pe_bm PySem.F.plainAttrs_list PySem.F.slot_list_append PySem.F.type_list_append mt_append (pv 2) (pa_cons
              (pe_tup (pa_cons (pe_cal cR hr pass0 (pa_cons (pv 0) (pa_cons (pv 3) (pa_cons (pv 4) pa_nil)))) (pa_cons (pe_tup (StX.pa_star (pv 3) (pa_cons (pv 4) pa_nil))) pa_nil))) pa_nil)))) pss_nil)))))
      (pss_cons (ps_set (i := 5) scLeastStep.nd rfl (Or.inr rfl) (pe_b (cr_minT rfl hr.units) B.min PyProof.Rows.boot_min (pa_cons
        (pe_lc (own := [("step", 6)]) (g := gName 6) (tt := tYes) (te := tOp (rIxT K) (tVar 6) (tC (.int 0))) rfl scLeastStep.nd (pi_list (pv 2)) (blkOk_by (N := nLeastStep) (sc := defScope sLeastStep) (by decide +kernel)) (fun _ _ _ _ _ => pg_name (i := 6) scLeastStep.nd rfl (Or.inl rfl)) (fun _ _ _ _ _ => pts_nil)
          (fun _ _ _ _ _ => pe_ix (r := rIxT K) ix_tup (pv 6) pe_int (fun _ _ => rfl))) pa_nil)))
      (pss_one (ps_ret (pe_tup (pa_cons (pv 5) (pa_cons
        (pe_lc (own := [("step", 6)]) (g := gName 6) (tt := tTest (tOp (rEqD K) (tOp (rIxT K) (tVar 6) (tC (.int 0))) (tVar 5))) (te := tOp (rIxT K) (tVar 6) (tC (.int 1))) rfl scLeastStep.nd (pi_list (pv 2)) (blkOk_by (N := nLeastStep) (sc := defScope sLeastStep) (by decide +kernel)) (fun _ _ _ _ _ => pg_name (i := 6) scLeastStep.nd rfl (Or.inl rfl))
          (fun _ _ _ _ _ => pts_one (pt_cmpR (r := rEqD K) (op_eqD hr.units) (pe_ix (r := rIxT K) ix_tup (pv 6) pe_int (fun _ _ => rfl)) (pv 5) (nomark _)))
          (fun _ _ _ _ _ => pe_ix (r := rIxT K) ix_tup (pv 6) pe_int (fun _ _ => rfl))) pa_nil))))))), ?_⟩
    -- steps = []
    refine ⟨by show 0 ≤ sizeLine; decide, fun D hD => ?_⟩
    have S1 : Same H (upd H D (.lst [])) := Same.upd_new hD
    refine ⟨_, rfl, op, rfl, ⟨_, SqL.of (S1 _ _ hop)⟩, for_list (K := K) (a := op) (xs := vR os) (fun i σ H' => (∃ v3 v4, σ = [some (.ref p), some (.ref op), some (.ref D), v3, v4, none, none]) ∧ Same H H' ∧ ∃ sa, H' D = some (.lst (vR sa)) ∧ Stp H' sa (stepsAll M n (orders.take i)))
      ⟨⟨_, _, rfl⟩, S1, [], upd_same, Stp.nil⟩ (fun i σ H' _ q => SqL.of (q.2.1 _ _ hop)) ?_ ?_⟩
    · rintro i x σ H' hi ⟨⟨v3, v4, rfl⟩, s1, sa, hDs, hst⟩
      obtain ⟨b, hbi, rfl⟩ := vR_get hi
      have hilen : i < orders.length := by
        have := (List.getElem?_eq_some_iff.mp hbi).1
        rw [hos.len, List.length_map] at this
        exact this
      obtain ⟨o, ho⟩ : ∃ o, orders[i]? = some o := ⟨_, List.getElem?_eq_getElem hilen⟩
      have hbo : tI H b (iN o) := hos.at_ i b _ hbi (by rw [List.getElem?_map, ho]; rfl)
      have hoo := hord o (List.mem_of_getElem? ho)
      -- for place in range(len(company))
      refine ⟨_, rfl, p, bk, g0, rowsM M n, rfl, hcomp.same s1, by omega, _, rfl, by omega, by omega, for_range (n := ((g0.length : Nat) : Int).toNat) (fun j σ H2 => (∃ v4, σ = [some (.ref p), some (.ref op), some (.ref D), some (.ref b), v4, none, none]) ∧ Same H H2 ∧ ∃ sa, H2 D = some (.lst (vR sa)) ∧ Stp H2 sa (stepsAll M n (orders.take i) ++ partOne M o j))
        ⟨⟨_, rfl⟩, s1, sa, hDs, by unfold partOne; simpa using hst⟩ ?_ ?_⟩
      · rintro j σ H2 hj ⟨⟨v4, rfl⟩, s2, sa2, hD2, hst2⟩
        have hjn : j < n := by omega
        have ej : (0 : Int) + (j : Int) = ((j : Nat) : Int) := by omega
        have hb2 : tI H2 b (iN o) := s2 _ _ hbo
        refine ⟨_, rfl, _, rfl, b, _, rfl, .inr (SqT.of hb2), rfl, flat_ints _, _, rfl, ?_⟩
        rw [if_pos rfl, inV_ints, ej]
        by_cases hm : j ∈ o
        · rw [decide_eq_true (mem_iN.mpr hm)]
          refine iteF ⟨⟨_, rfl⟩, s2, sa2, hD2, ?_⟩
          rw [partOne_out hm]; exact hst2
        · rw [decide_eq_false (fun z => hm (mem_iN.mp z))]
          have hlsa : sa2.length ≤ 1000000 := by
            rw [hst2.len, List.length_append]
            have h1 := stepsAll_len M n (orders.take i)
            have h2 := partOne_len M o j
            rw [List.length_take] at h1
            have h3 : (min i orders.length) * n + n ≤ orders.length * n := by
              rw [← Nat.succ_mul]
              exact Nat.mul_le_mul_right n (by omega)
            have h4 : (stepsAll M n (orders.take i)).length + n ≤ orders.length * n := Nat.le_trans (Nat.add_le_add_right h1 n) h3
            omega
          have hlo : o.length ≤ 1000 := by rw [hoo.len]; omega
          refine iteT ⟨_, rfl, .inl ⟨rfl, _, SqL.of hD2⟩, _, rfl, _, rfl, _, rfl, p, b, bk, n, M, o, j, rfl, hc.same s2, hb2, hoo.lt, hlo, hjn, hm, fun H3 t s3 ht => ?_⟩
          refine ⟨_, rfl, b, _, rfl, .inl (SqT.of (s3 _ _ hb2)), _, rfl, ?_, fun u hu => ?_⟩
          · show (vI (iN o) ++ [V.int j]).length ≤ sizeLine
            rw [List.length_append, vI_len, iN_len]
            exact size_of (by show o.length + 1 ≤ 1000000; omega)
          have s4 : Same H2 (upd H3 u (.tup (vI (iN o) ++ [V.int ((j : Nat) : Int)]))) := Same.new s3 hu
          have u4 : tI (upd H3 u (.tup (vI (iN o) ++ [V.int ((j : Nat) : Int)]))) u (iN (o ++ [j])) := by
            show upd H3 u _ u = _
            rw [upd_same, vI_snoc]
            simp
          have t4 : tI (upd H3 u (.tup (vI (iN o) ++ [V.int ((j : Nat) : Int)]))) t (o.map (M j)) := Same.upd_new (o := .tup (vI (iN o) ++ [V.int ((j : Nat) : Int)])) hu _ _ ht
          refine ⟨by show 2 ≤ sizeLine; decide, fun c hcn => ?_⟩
          have s5 := Same.new (o := .tup [.ref t, .ref u]) s4 hcn
          have hD5 := s5 _ _ hD2
          refine ⟨D, vR sa2, _, rfl, rfl, hD5, by rw [vR_len]; exact size_lt hlsa, ⟨_, rfl⟩, Same.put (s2.trans s5) hD, sa2 ++ [c], by rw [upd_same, ← vR_snoc], ?_⟩
          rw [partOne_in hm, ← List.append_assoc]
          have st5 := (hst2.same s5).put (o := .lst (vR sa2 ++ [V.ref c])) hD5
          have c5 : upd (upd H3 u (.tup (vI (iN o) ++ [V.int ((j : Nat) : Int)]))) c (.tup [.ref t, .ref u]) c = some (.tup [.ref t, .ref u]) := upd_same
          refine st5.snoc (r := t) (o := u) ?_ (tI_put hD5 _ _ ?_) (tI_put hD5 _ _ ?_)
          · rw [upd_ne (ne_of c5 hD5 (by intro z; cases z))]; exact c5
          · exact Same.upd_new (o := .tup [.ref t, .ref u]) hcn _ _ t4
          · exact Same.upd_new (o := .tup [.ref t, .ref u]) hcn _ _ u4
      · rintro σ H2 ⟨⟨v4, rfl⟩, s2, sa2, hD2, hst2⟩
        have en : ((g0.length : Nat) : Int).toNat = n := by omega
        rw [en, partOne_full, ← steps_take ho] at hst2
        exact ⟨⟨_, _, rfl⟩, s2, sa2, hD2, hst2⟩
    · rintro σ H' ⟨⟨v3, v4, rfl⟩, s1, sa, hDs, hst⟩
      have eo : orders.take (vR os).length = orders := by rw [vR_len, hos.len, List.length_map, List.take_length]
      rw [eo] at hst
      generalize hss : stepsAll M n orders = ss at hst hne kk
      have hssl : ss.length ≤ 1000000 := by
        rw [← hss]
        exact Nat.le_trans (stepsAll_len M n orders) hsz
      -- best = min([step[0] for step in steps])
      refine ⟨_, rfl, D, rfl, ⟨_, SqL.of hDs⟩, fun L hL => lc_list (K := K) (a := D) (xs := vR sa) (fun i H2 => Same H' H2 ∧ ∃ rs, H2 L = some (.lst (vR rs)) ∧ Rws tI H2 rs ((ss.take i).map (·.1))) ⟨Same.upd_new hL, [], upd_same, Rws.nil⟩ (fun i H2 _ q => SqL.of (q.1 _ _ hDs)) ?_ ?_⟩
      · rintro i x H2 hi ⟨s2, rs, hLr, hrs⟩
        obtain ⟨c, hci, rfl⟩ := vR_get hi
        obtain ⟨st, hsi, r, o, q1, q2, q3⟩ := hst.get hci
        have hil : i < ss.length := (List.getElem?_eq_some_iff.mp hsi).1
        have hrl : rs.length = i := by rw [hrs.len, List.length_map, List.length_take]; omega
        refine ⟨rfl, yesT ?_⟩
        refine ⟨_, rfl, c, _, _, _, rfl, rfl, SqT.of (s2 _ _ q1), at_of (j := 0) rfl rfl, _, hLr, by rw [vR_len, hrl]; exact size_lt (by omega), Same.put s2 hL, rs ++ [r], by rw [upd_same, ← vR_snoc], ?_⟩
        rw [take_snoc hsi, List.map_append]
        exact (hrs.same (tI_put hLr)).snoc (tI_put hLr _ _ (s2 _ _ q2))
      · rintro H2 ⟨s2, rs, hLr, hrs⟩
        rw [vR_len, hst.len, List.take_length] at hrs
        refine ⟨L, rs, ss.map (·.1), rfl, SqL.of hLr, hrs, by rw [List.length_map]; exact List.length_pos_iff.mpr hne, fun i bt hbt hil hmin => ?_⟩
        rw [List.length_map] at hil hmin
        have hbk : (ss.map (·.1)).getD i [] = (ss[i]).1 := by simp [hil]
        rw [hbk] at hmin
        have hbT : tI H2 bt (ss[i]).1 := hrs.at_ i bt _ hbt (by simp [hil])
        generalize hbest : (ss[i]).1 = best at hmin hbT
        have hex : ∃ s ∈ ss, s.1 = best := ⟨ss[i], List.getElem_mem hil, hbest⟩
        have hall : ∀ s ∈ ss, lt1 s.1 best = false := fun s hs => by
          obtain ⟨j, hj, rfl⟩ := List.getElem_of_mem hs
          have := hmin j hj
          have e : (ss.map (·.1)).getD j [] = (ss[j]).1 := by simp [hj]
          rw [e] at this
          exact this
        have hD2 := s2 _ _ hDs
        have hst2 := hst.same s2
        have n2D : ∀ b o, H b = some o → H2 b = some o := fun b o e => s2 _ _ (s1 _ _ e)
        -- [step[1] for step in steps if step[0] == best]
        refine ⟨_, rfl, _, rfl, D, rfl, ⟨_, SqL.of hD2⟩, fun L2 hL2 => lc_list (K := K) (a := D) (xs := vR sa) (fun i H3 => Same H2 H3 ∧ ∃ rs, H3 L2 = some (.lst (vR rs)) ∧ Rws tI H3 rs ((((ss.take i).filter fun s => decide (s.1 = best)).map (·.2)).map iN)) ⟨Same.upd_new hL2, [], upd_same, Rws.nil⟩ (fun i H3 _ q => SqL.of (q.1 _ _ hD2)) ?_ ?_⟩
        · rintro i x H3 hi ⟨s3, rs3, hLr3, hrs3⟩
          obtain ⟨c, hci, rfl⟩ := vR_get hi
          obtain ⟨st, hsi, r, o, q1, q2, q3⟩ := hst2.get hci
          have hil3 : i < ss.length := (List.getElem?_eq_some_iff.mp hsi).1
          have hrl : rs3.length ≤ ss.length := by
            rw [hrs3.len, List.length_map, List.length_map]
            refine Nat.le_trans (List.length_filter_le _ _) ?_
            rw [List.length_take]; omega
          refine ⟨rfl, ?_⟩
          refine ⟨_, rfl, c, _, _, _, rfl, rfl, SqT.of (s3 _ _ q1), at_of (j := 0) rfl rfl, _, rfl, dI st.1, dI best, dp_tI (s3 _ _ q2), dp_tI (s3 _ _ hbT), sh_dI _, sh_dI _, _, rfl, ?_⟩
          rw [eqv_dI]
          have hf : (ss.take (i + 1)).filter (fun s => decide (s.1 = best)) = (ss.take i).filter (fun s => decide (s.1 = best)) ++ [st].filter (fun s => decide (s.1 = best)) := by rw [take_snoc hsi, List.filter_append]
          by_cases e : st.1 = best
          · rw [decide_eq_true e]
            refine iteT ⟨_, rfl, c, _, _, _, rfl, rfl, SqT.of (s3 _ _ q1), at_of (j := 1) rfl rfl, _, hLr3, by rw [vR_len]; exact size_lt (by omega), Same.put s3 hL2, rs3 ++ [o], by rw [upd_same, ← vR_snoc], ?_⟩
            have ef : [st].filter (fun s => decide (s.1 = best)) = [st] := by simp [e]
            rw [hf, ef, List.map_append, List.map_append]
            exact (hrs3.same (tI_put hLr3)).snoc (tI_put hLr3 _ _ (s3 _ _ q3))
          · rw [decide_eq_false e]
            have ef : [st].filter (fun s => decide (s.1 = best)) = [] := by simp [e]
            refine iteF ⟨s3, rs3, hLr3, ?_⟩
            rw [hf, ef, List.append_nil]
            exact hrs3
        · rintro H3 ⟨s3, rs3, hLr3, hrs3⟩
          rw [vR_len, hst.len, List.take_length] at hrs3
          refine ⟨by show 2 ≤ sizeLine; decide, fun t ht => ?_⟩
          have s4 := Same.upd_new (o := .tup [.ref bt, .ref L2]) ht
          exact kk _ t bt L2 rs3 best _ ((s1.trans s2).trans (s3.trans s4)) upd_same (s4 _ _ (s3 _ _ hbT)) ((s1.trans s2).free hL2) (s4 _ _ hLr3) (hrs3.same (tI_same s4)) hex hall rfl
end
end K7

namespace K7
open PySem L2
theorem iN_range_get {n i : Nat} (h : i < n) : (iN (List.range n)).getD i 0 = (i : Int) := by simp [h]
theorem lab_range {n : Nat} (h : n ≤ 60) : LabOk (iN (List.range n)) := by
  have hl : (iN (List.range n)).length = n := by rw [iN_len, List.length_range]
  refine ⟨fun i hi => ?_, fun i hi => ?_⟩
  · rw [hl] at hi
    rw [iN_range_get hi]; omega
  · rw [hl] at hi
    rw [iN_range_get hi, iN_range_get (by omega)]; omega
theorem rgV_range (n : Nat) : rgV 0 (n : Int) = vI (iN (List.range n)) := by
  unfold rgV
  have e : ((n : Int) - 0).toNat = n := by omega
  rw [e, vI, iN, List.map_map]
  refine List.map_congr_left fun i _ => ?_
  show V.int (0 + (i : Int)) = V.int (i : Int)
  rw [Int.zero_add]
/-- the rows of an order are rows of a company -/
theorem Mat.ord {bk : List Int} {n : Nat} {M : Mx} {o : List Nat} (h : Mat bk n M) (ho : Ord n n o) : Mat bk n (fun a b => M (o.getD a 0) (o.getD b 0)) :=
  ⟨fun i j hi hj hne => h.rg _ _ (ho.get hi) (ho.get hj) fun e => hne (ho.inj hi hj e), anti_ord h.anti ho⟩
theorem rowsO_ok {bk : List Int} {n : Nat} {M : Mx} {o : List Nat} (h : Mat bk n M) (ho : Ord n n o) : RowsOk bk (rowsO M o) := by
  rw [← rowsM_ord ho]
  exact (h.ord ho).rows

section
variable {P : Program} {w : World} {K : PySem.W.Frag} {mg : Str → Option Value} {base : Heap}
/-! ### least_form -/
def spLeastForm (C CT CM : Addr) : Sp := fun vs H Q E => ∃ (p : Addr) (bk : List Int) (n : Nat) (M : Mx), vs = [.ref p] ∧ CoM C CT H p bk n M ∧ n ≤ 60 ∧
  (n ≤ 7 → ∀ (H' : Hp) (q : Addr) (o : List Nat), Same H H' → Ord n n o → IsLeast M n (rowsO M o) → CompAt C CT H' q bk (iN (List.range n)) (rowsO M o) → Q (.ref q) H') ∧
  (7 < n → ∀ (d : Addr) (H' : Hp), Same H H' → H' d = some (.xd [("count", .int n)]) → E (.ref CM) (some d) H')
abbrev nLeastForm : List Str := ["company", "many", "orders", "rows", "k", "best"]
theorem scLeastForm : FnScope nLeastForm ["company"] (defScope sLeastForm) := ⟨rfl, rfl, rfl, by decide +kernel, rfl, by decide +kernel, by decide +kernel⟩
theorem pow7 {k n l : Nat} (hn : n ≤ 7) (hk : k < n) (h : l ≤ 7 ^ k) : l * n ≤ 7 ^ (k + 1) ∧ l * n ≤ 1000000 := by
  have h1 : l * n ≤ 7 ^ k * 7 := Nat.mul_le_mul h hn
  have h2 : 7 ^ (k + 1) ≤ 7 ^ 7 := Nat.pow_le_pow_right (by decide) (by omega)
  have h3 : 7 ^ (k + 1) = 7 ^ k * 7 := Nat.pow_succ 7 k
  have h4 : (7 : Nat) ^ 7 = 823543 := by decide
  omega
theorem ok_leastForm {f fI C CT CM : Addr} {fd fdI : FuncData} (F : Fun K "least_form" "least_form" sLeastForm f fd) (T : TxC K mg C) (TT : TxT K mg CT) (B : Blt mg) (O : ClsO P w K mg base C CT)
    (cL : Cal P w K mg base (L2.CX P w) 3 "_limit" ["company"] (spLimit C CT CM)) (cS : Cal P w K mg base CX0 3 "_least_step" ["company", "orders"] (spLeastStep C CT))
    (MC : Mk K C fI) (FI : FnOk P w K mg base CX0 4 fI fdI ["self", "ties", "guests", "rows"] (spCompany C CT)) (bI : Binds K fdI ["self", "ties", "guests", "rows"] []) :
    FnOk P w K mg base (L2.CX P w) 6 f fd ["company"] (spLeastForm C CT CM) := by
  refine F.okX scLeastForm (fun vs H Q E h => ?_) (fun cdv A outer s H vs Q E hr h => ?_)
  · obtain ⟨p, bk, n, M, rfl, _⟩ := h
    rfl
  · obtain ⟨p, bk, n, M, rfl, hc, h60, k1, k2⟩ := h
    obtain ⟨g0, hg0, hcomp⟩ := hc.comp
    obtain ⟨hbk, hM, _⟩ := id hc
    refine ⟨_, pss_cons (ps_expr (pe_cal (E := E) cL hr (passes_call (W := fun cls d _ H => E cls d H) (takes_of rfl rfl rfl rfl) (fun _ _ _ _ h => h)) (pa_cons (pv 0) pa_nil)))
      (pss_cons (ps_set (i := 1) scLeastForm.nd rfl (Or.inl rfl) (pe_b (call_lenO O hr) B.len PySem.boot_len (pa_cons (pv 0) pa_nil)))
      (pss_cons (ps_set (i := 2) scLeastForm.nd rfl (Or.inl rfl) (pe_lst (pa_cons (pe_tup pa_nil) pa_nil)))
      (pss_cons (ps_set (i := 3) scLeastForm.nd rfl (Or.inl rfl) (pe_lst pa_nil))
      (pss_cons (ps_for (passes_of rfl) rfl (pi_range1 rfl B.range (pa_cons (pv 1) pa_nil)) (pg_name (i := 4) scLeastForm.nd rfl (Or.inl rfl))
        (pss_cons (ps_asg (pe_cal cS hr pass0 (pa_cons (pv 0) (pa_cons (pv 2) pa_nil))) (pg_tup (by rfl) (pgs_cons (pg_name (i := 5) scLeastForm.nd rfl (Or.inl rfl)) (pgs_cons (pg_name (i := 2) scLeastForm.nd rfl (Or.inl rfl)) pgs_nil))))
        (pss_one (ps_expr (pe_bm PySem.F.plainAttrs_list PySem.F.slot_list_append PySem.F.type_list_append mt_append (pv 3) (pa_cons (pv 5) pa_nil))))))
      (pss_one (ps_ret (pe_make MC FI (hr.mono (by decide)) rfl T.mgC bI .nil pass0 (pa_cons (pe_fld (pv 0) rfl) (pa_cons (pe_listRg rfl rfl B.list (prg_1 rfl B.range (pv 1))) (pa_cons (pv 3) pa_nil)))))))))), ?_⟩
    refine ⟨_, rfl, p, bk, g0, rowsM M n, rfl, hcomp, by omega, fun h7 => ?_, fun h7 d H' s1 hd => ?_⟩
    · refine ⟨_, rfl, p, bk, g0, rowsM M n, rfl, hcomp, by omega, ?_⟩
      rw [hg0]
      -- orders = [()]
      refine ⟨by show 0 ≤ sizeLine; decide, fun t ht => ⟨by show 1 ≤ sizeLine; decide, fun D hD => ?_⟩⟩
      have S1 : Same H (upd H t (.tup [])) := Same.upd_new ht
      have S2 := Same.new (o := .lst [.ref t]) S1 hD
      have t2 : tI (upd (upd H t (.tup [])) D (.lst [.ref t])) t (iN []) := Same.upd_new (o := .lst [.ref t]) hD _ _ upd_same
      have D2 : upd (upd H t (.tup [])) D (.lst [.ref t]) D = some (.lst (vR [t])) := upd_same
      generalize hH2 : upd (upd H t (.tup [])) D (.lst [.ref t]) = H2 at S2 t2 D2
      -- rows = []
      refine ⟨by show 0 ≤ sizeLine; decide, fun L hL => ?_⟩
      have hL0 : H L = none := S2.free hL
      have s3 := Same.upd_new (o := .lst []) hL
      refine ⟨_, rfl, _, rfl, by omega, by omega, for_range (n := ((n : Nat) : Int).toNat) (fun i σ H' => (∃ op v4 v5 os rs rows orders, σ = [some (.ref p), some (.int n), some (.ref op), some (.ref L), v4, v5] ∧ H' op = some (.lst (vR os)) ∧ Rws tI H' os (orders.map iN) ∧ H' L = some (.lst (vR rs)) ∧ Rws tI H' rs rows ∧ Greedy M n i rows orders ∧ orders.length ≤ 7 ^ i ∧ op ≠ L) ∧ Same H H')
        ⟨⟨D, none, none, [t], [], [], [[]], rfl, s3 _ _ D2, ?_, upd_same, Rws.nil, Greedy.start M n, Nat.le_refl _, ne_of_none D2 hL⟩, S2.trans s3⟩ ?_ ?_⟩
      · exact (Rws.nil (S := tI) (H := upd H2 L (.lst []))).snoc (s3 _ _ t2)
      · rintro i σ H' hi ⟨⟨op, v4, v5, os, rs, rows, orders, rfl, hop, hos, hLr, hrs, gr, hlen, hne⟩, s4⟩
        have hin : i < n := by omega
        obtain ⟨hp1, hp2⟩ := pow7 (by omega : n ≤ 7) hin hlen
        refine ⟨_, rfl, _, rfl, p, op, bk, n, i, M, orders, os, rfl, hc.same s4, h60, hop, hos, fun o ho => gr.ord ho, hin, hp2, gr.steps_ne hin, fun H5 pt bt lp os2 best orders2 s5 hpt hbt hlp0 hlp hos2 hb1 hb2 e2 => ?_⟩
        refine ⟨pt, _, rfl, SqT.of hpt, rfl, _, _, rfl, _, _, rfl, rfl, ?_⟩
        have hL5 := s5 _ _ hLr
        have hrl : rs.length = i := by rw [hrs.len, gr.len]
        refine ⟨_, rfl, .inl ⟨rfl, _, SqL.of hL5⟩, _, rfl, L, vR rs, _, rfl, rfl, hL5, by rw [vR_len, hrl]; exact size_lt (by omega), ?_⟩
        have nlp : lp ≠ L := fun e => by
          rw [e, hLr] at hlp0
          cases hlp0
        have gr2 := gr.step best hb1 hb2
        rw [← e2] at gr2
        have s6 : Same H (upd H5 L (.lst (vR rs ++ [V.ref bt]))) := Same.put (s4.trans s5) hL0
        refine ⟨⟨lp, _, _, os2, rs ++ [bt], rows ++ [best], orders2, rfl, ?_, ?_, ?_, ?_, gr2, ?_, nlp⟩, s6⟩
        · rw [upd_ne nlp]; exact hlp
        · exact hos2.same (tI_put hL5)
        · rw [upd_same, ← vR_snoc]
        · exact ((hrs.same (tI_same s5)).same (tI_put hL5)).snoc (tI_put hL5 _ _ hbt)
        · rw [e2, List.length_map]
          exact Nat.le_trans (List.length_filter_le _ _) (Nat.le_trans (stepsAll_len M n orders) hp1)
      · rintro σ H' ⟨⟨op, v4, v5, os, rs, rows, orders, rfl, hop, hos, hLr, hrs, gr, hlen, hne⟩, s4⟩
        have en : ((n : Nat) : Int).toNat = n := by omega
        rw [en] at gr
        obtain ⟨o, ho, er⟩ := gr.done.some
        obtain ⟨dx, tt, gt, rt, rs0, i1, i2, i3, i4, i5⟩ := hcomp.same s4
        refine ⟨_, rfl, p, C, dx, _, _, rfl, i1, T.cl, T.nT, cfs_ties _ _ _, _, rfl, _, rfl, .of_le (by decide) (by omega) (by decide) (by omega), fun gl hgl => ?_⟩
        have s6 := Same.new (o := .lst (rgV 0 (n : Int))) s4 hgl
        have s7 : Same H' (upd H' gl (.lst (rgV 0 (n : Int)))) := Same.upd_new hgl
        have gl2 : upd H' gl (.lst (rgV 0 (n : Int))) gl = some (.lst (vI (iN (List.range n)))) := by rw [upd_same, rgV_range]
        generalize hH8 : upd H' gl (.lst (rgV 0 (n : Int))) = H8 at s6 s7 gl2
        refine ⟨_, rfl, fun x dx2 hx hdx hne2 => ?_⟩
        have s9 : Same H8 (upd (upd H8 dx2 (.own x)) x (.ins C dx2 [])) := Same.put (Same.new (Same.refl H8) hdx) hx
        have hx0 : H x = none := s6.free hx
        have hl : (iN (List.range n)).length = n := by rw [iN_len, List.length_range]
        have hrl : rows.length = n := gr.len
        refine ⟨x, dx2, tt, gl, L, bk, iN (List.range n), rows, rs, rfl, upd_same, i2.same (s7.trans s9), s9 _ _ gl2, s9 _ _ (s7 _ _ hLr), (hrs.same (tI_same (s7.trans s9))).imp fun _ _ _ q => .inr q, by rw [hl, hrl], by rw [hl]; exact h60, lab_range h60, ?_, fun H9 b9 hco => ⟨rfl, ?_⟩⟩
        · rw [← er]; exact rowsO_ok hM ho
        · rw [← er] at hco
          refine k1 (by omega) H9 x o (fun b u hb => b9 b u (ne_of_none hb hx0) ((s6.trans s9) b u hb)) ho ?_ hco
          rw [er]; exact gr.done
    · exact k2 (by omega) d H' s1 (by rw [← hg0]; exact hd)
end
end K7

/-! ### a generator whose first item ends the walk over it -/
namespace G1
open PySem PySem.Spec PyProof.Rows L2 GenW
/-- the first item -/
def YF (X : Cx) (Yw : V → Hp → Prop) : Protocol := fun _ _ v s _ => ∃ x σ H, Inv X [] σ H s ∧ RelV x v ∧ Yw x H
abbrev TF := Ends → (V → Hp → Prop) → L2.St → Hp → Prop
/-- where the code stands; no exception leaves it -/
structure FC (X : Cx) (A : Around) (c : Code) (fs : List Frame) (gd : Bool → Bool) : Prop where
  over : A.over c fs = X.A
  split : splitAtGen fs = none
  guard : fs.any Frame.guarded = false
  gd : gd false = false
  nox : ∀ e s, ¬ X.xe e s
structure FK (X : Cx) (A : Around) (R : GenEnd) (c : Code) (fs : List Frame) (K : Flow → Sem PySem.Fin) (D : Ends) (Yw : V → Hp → Prop) : Prop where
  ok : ∀ (n : Nat) (s₀ s : Shared) (f : Flow), SP X [] D f s → Seg (model X.prog X.w) A R (YF X Yw) (n + 1) s₀ c (K f) fs s
structure FS (X : Cx) (st : Stmt) (t : TF) : Prop where
  run : ∀ (A : Around) (R : GenEnd) (n : Nat) (s₀ : Shared) (c : Code) (fs : List Frame) (K : Flow → Sem PySem.Fin) (J : Value → Sem PySem.Fin) (gd : Bool → Bool) (lv : List Value → List Value) (s : Shared) (σ : L2.St) (H : Hp) (D : Ends) (Yw : V → Hp → Prop),
    FC X A c fs gd → FK X A R c fs K D Yw → Inv X [] σ H s → t D Yw σ H → Seg (model X.prog X.w) A R (YF X Yw) (n + 1) s₀ c ((exec st X.env).wrap K J gd lv) fs s
structure FSs (X : Cx) (st : List Stmt) (t : TF) : Prop where
  run : ∀ (A : Around) (R : GenEnd) (n : Nat) (s₀ : Shared) (c : Code) (fs : List Frame) (K : Flow → Sem PySem.Fin) (J : Value → Sem PySem.Fin) (gd : Bool → Bool) (lv : List Value → List Value) (s : Shared) (σ : L2.St) (H : Hp) (D : Ends) (Yw : V → Hp → Prop),
    FC X A c fs gd → FK X A R c fs K D Yw → Inv X [] σ H s → t D Yw σ H → Seg (model X.prog X.w) A R (YF X Yw) (n + 1) s₀ c ((execs st X.env).wrap K J gd lv) fs s
section
variable {X : Cx} {st : Stmt} {rest : List Stmt}
def tfPlain (t : TS) : TF := fun D _ σ H => t D σ H
theorem fs_ps {t : TS} (h : PS X st t) : FS X st (tfPlain t) := by
  refine ⟨fun A R n s₀ c fs K J gd lv s σ H D Yw g k I ht => seg_wrap ?_⟩
  rw [g.over]
  exact wpAny_mono (h.run [] s σ H D I ht) (fun f s' q => k.ok n s₀ s' f q) fun x s' q => (g.nox x s' q).elim
theorem fss_pss {t : TS} (h : PSs X rest t) : FSs X rest (tfPlain t) := by
  refine ⟨fun A R n s₀ c fs K J gd lv s σ H D Yw g k I ht => seg_wrap ?_⟩
  rw [g.over]
  exact wpAny_mono (h.run [] s σ H D I ht) (fun f s' q => k.ok n s₀ s' f q) fun x s' q => (g.nox x s' q).elim
def tfNil : TF := fun D _ σ H => D.nx σ H
theorem fss_nil : FSs X [] tfNil := ⟨fun A R n s₀ c fs K J gd lv s σ H D Yw g k I ht => seg_execs_nil (k.ok n s₀ s .next ⟨σ, H, I, ht⟩)⟩
def tfThen (t u : TF) : TF := fun D Yw σ H => t { D with nx := fun σ' H' => u D Yw σ' H' } Yw σ H
theorem fss_cons {t u : TF} (a : FS X st t) (b : FSs X rest u) : FSs X (st :: rest) (tfThen t u) := by
  refine ⟨fun A R n s₀ c fs K J gd lv s σ H D Yw g k I ht => seg_execs_cons ?_⟩
  refine a.run A R n s₀ c fs _ J gd lv s σ H { D with nx := fun σ' H' => u D Yw σ' H' } Yw g ⟨fun n' s₀' s' f q => ?_⟩ I ht
  cases f with
  | next =>
    obtain ⟨σ', H', I', q'⟩ := q
    exact b.run A R n' s₀' c fs K J gd lv s' σ' H' D Yw g k I' q'
  | brk => exact k.ok n' s₀' s' .brk q
  | cont => exact k.ok n' s₀' s' .cont q
  | ret u => exact k.ok n' s₀' s' (.ret u) q
theorem fss_one {t : TF} (a : FS X st t) : FSs X [st] (tfThen t tfNil) := fss_cons a fss_nil
def tfYield (te : TE) : TF := fun _ Yw σ H => te σ H Yw
theorem fs_yield {e : Expr} {yp pos : Pos} {te : TE} (he : PE X e te) (hco : X.env.scope.isCoroutine = false := by rfl) (hi : interactive X.env = false := by rfl) : FS X (.Expr (.Yield (some e) yp) pos) (tfYield te) := by
  refine ⟨fun A R n s₀ c fs K J gd lv s σ H D Yw g k I ht => seg_Expr_Yield g.split g.gd g.guard ?_ hco hi⟩
  rw [g.over]
  refine wpAny_mono (he.run [] s σ H Yw I ht) (fun v s' q => ?_) fun x s' q => (g.nox x s' q).elim
  obtain ⟨x, H1, I1, r1, q1⟩ := q
  exact fun kap _ => ⟨x, σ, H1, I1, r1, q1⟩
def tfIf (c : TT) (t u : TF) : TF := fun D Yw σ H => c σ H fun b H1 => if b = true then t D Yw σ H1 else u D Yw σ H1
theorem fs_if {c : Expr} {a b : List Stmt} {pos : Pos} {tc : TT} {t u : TF} (hc : PT X c tc) (ha : FSs X a t) (hb : FSs X b u) : FS X (.If c a b pos) (tfIf tc t u) := by
  refine ⟨fun A R n s₀ c' fs K J gd lv s σ H D Yw g k I ht => ?_⟩
  rw [exec_If]
  refine seg_at ?_
  show Seg _ _ _ _ _ _ _ ((isTrue c X.env (eval c X.env) >>= fun d => if d = true then execs a X.env else execs b X.env).wrap K J gd lv) _ _
  refine seg_bind_wrap ?_
  rw [g.over]
  refine wpAny_mono (hc.run [] s σ H _ I ht) (fun d s' q => ?_) fun x s' q => (g.nox x s' q).elim
  obtain ⟨H1, I1, q1⟩ := q
  cases d with
  | true =>
    rw [if_pos rfl]
    exact ha.run A R n s₀ c' fs K J gd lv s' σ H1 D Yw g k I1 q1
  | false =>
    rw [if_neg Bool.false_ne_true]
    exact hb.run A R n s₀ c' fs K J gd lv s' σ H1 D Yw g k I1 q1
def tfWhile (c : TT) (tb : TF) : TF := fun D Yw σ H => ∃ W : Nat → L2.St → Hp → Prop, (∃ m, W m σ H) ∧ ∀ m σ H, W m σ H →
  c σ H fun b H1 => if b = true then ∃ N : L2.St → Hp → Prop, (∀ σ' H', N σ' H' → ∃ m', m' < m ∧ W m' σ' H') ∧ tb { D with nx := N, ct := N, bk := D.nx } Yw σ H1 else D.nx σ H1
theorem fs_while {test : Expr} {body : List Stmt} {pos : Pos} {tc : TT} {tb : TF} (hc : PT X test tc) (hb : FSs X body tb) : FS X (.While test body [] pos) (tfWhile tc tb) := by
  refine ⟨fun A R n s₀ c fs K J gd lv s σ H D Yw g k I ht => ?_⟩
  obtain ⟨W, ⟨m0, w0⟩, turn⟩ := ht
  refine seg_While fun p => ?_
  have gl : ∀ kk : Result → Sem PySem.Fin, FC X A (.whileLoop test body [] X.env) (.ret kk none (gd false) (lv []) c p [] :: fs) id := fun kk =>
    ⟨(over_loop rfl rfl).trans g.over, by show (splitAtGen fs).map _ = none; rw [g.split]; rfl, by show (gd false || fs.any Frame.guarded) = false; rw [g.gd, g.guard]; rfl, rfl, g.nox⟩
  have loop : ∀ (m n : Nat) (s₀ s : Shared) (σ : L2.St) (H : Hp), W m σ H → Inv X [] σ H s →
      Seg (model X.prog X.w) A R (YF X Yw) (n + 1) s₀ (.whileLoop test body [] X.env) ((model X.prog X.w).den (.whileLoop test body [] X.env))
        (.ret (fun r => ((match r with | .ok f => (.pure f : Sem Flow) | .error e => .raise e).onRaise (cameBack X.env)).wrap K J gd lv) none (gd false) (lv []) c p [] :: fs) s := by
    intro m
    induction m using Nat.strongRecOn with
    | ind m ih =>
      intro n s₀ s σ H w I
      refine seg_whileLoop ?_
      rw [(gl _).over]
      refine wpAny_mono (hc.run [] s σ H _ I (turn m σ H w)) (fun b s' q => ?_) fun x s' q => (g.nox x s' q).elim
      obtain ⟨H2, I2, q2⟩ := q
      cases b with
      | true =>
        obtain ⟨N, hN, q2⟩ := q2
        rw [if_pos rfl]
        refine hb.run A R n s₀ _ _ _ _ id id s' σ H2 { D with nx := N, ct := N, bk := D.nx } Yw (gl _) ⟨fun n' s₀' s3 f q3 => ?_⟩ I2 q2
        cases f with
        | next =>
          obtain ⟨σ3, H3, I3, n3⟩ := q3
          obtain ⟨m', hm, w3⟩ := hN σ3 H3 n3
          exact seg_again rfl (ih m' hm n' s₀' s3 σ3 H3 w3 I3)
        | cont =>
          obtain ⟨σ3, H3, I3, n3⟩ := q3
          obtain ⟨m', hm, w3⟩ := hN σ3 H3 n3
          exact seg_again rfl (ih m' hm n' s₀' s3 σ3 H3 w3 I3)
        | brk => exact seg_leaf (.ok .next) (k.ok n' s₀' s3 .next q3)
        | ret v => exact seg_leaf (.ok (.ret v)) (k.ok n' s₀' s3 (.ret v) q3)
      | false =>
        rw [if_neg Bool.false_ne_true]
        exact seg_execs_nil (seg_leaf (.ok .next) (k.ok n s₀ s' .next ⟨σ, H2, I2, q2⟩))
  exact loop m0 n s₀ s σ H w0 I
end

/-! ### the call: a generator that has not begun -/
abbrev Sp1 := List V → Hp → (V → Hp → Prop) → (Hp → Prop) → Prop
def Back (P : Program) (w : World) (outer : List Env) (H : Hp) (s : Shared) (s1 : Shared) (H' : Hp) : Prop := s1.os = s.os ∧ AllBare s1.gens ∧ Un (frs outer) [] H H' s.heap s1.heap ∧ HOk P w H' s1.heap
def REnd1 (P : Program) (w : World) (outer : List Env) (H : Hp) (s : Shared) (Fw : Hp → Prop) : GenEnd := fun _ _ r s1 => ((r = .ok (.ret .none) ∨ r = .ok .next) ∧ ∃ H', Back P w outer H s s1 H' ∧ Fw H') ∨ ∃ e, r = .error e ∧ False
def YItem1 (P : Program) (w : World) (outer : List Env) (H : Hp) (s : Shared) (Yw : V → Hp → Prop) : Protocol := fun _ _ v s1 _ => ∃ x H', Back P w outer H s s1 H' ∧ RelV x v ∧ Yw x H'
def GMade1 (P : Program) (w : World) (k : Nat) (outer : List Env) (H : Hp) (s : Shared) (Yw : V → Hp → Prop) (Fw : Hp → Prop) (u : Value) (s' : Shared) : Prop :=
  ∃ (a : Addr) (g : Nat) (c : Code), u = .ref a ∧ s'.heap.IsGen a g ∧ s'.gens[g]? = some (.fresh c) ∧ s'.os = s.os ∧ AllBare s'.gens ∧ s'.heap.NoLimit ∧ (∀ b o, s.heap.get? b = some o → s'.heap.get? b = some o) ∧
    ∀ (A : Around) (s2 : Shared), Room k A → A.frames = some outer → s2.heap = s'.heap → s2.os = s'.os → AllBare s2.gens → Seg (model P w) A (REnd1 P w outer H s Fw) (YItem1 P w outer H s Yw) 1 s2 c ((model P w).den c) [] s2
structure GFn1 (P : Program) (w : World) (K : PySem.W.Frag) (mg : Str → Option Value) (base : Heap) (k : Nat) (f : Addr) (fd : FuncData) (ps : List Str) (sp : Sp1) : Prop where
  len : ∀ vs H Yw Fw, sp vs H Yw Fw → vs.length = ps.length
  run : ∀ (A : Around) (outer : List Env) (s : Shared) (H : Hp) (args : Args) (us : List Value) (vs : List V) (Yw : V → Hp → Prop) (Fw : Hp → Prop), Room k A → Env0 P w K mg base A outer s H → BindsTo s fd args (ps.zip us) → Vals vs us → sp vs H Yw Fw →
    codeAny (model P w) A (.call (.ref f) args) (fun r s' => match r with | .ok (.ret u) => GMade1 P w k outer H s Yw Fw u s' | _ => False) s
theorem gfn1_of {P : Program} {w : World} {K : PySem.W.Frag} {mg : Str → Option Value} {base : Heap} {k : Nat} {f : Addr} {name qual : Str} {params : Arguments} {body : List Stmt} {scope : Scope} {dV kV doc pm cdv ct oc : Value} {an od : Option Addr}
    {osl : Array (Option Value)} {N ps : List Str} {sp : Sp1} (lk : K.lookup f = some ⟨oc, od, .func (PySem.W.fnOf name qual params body scope dV kV doc pm an cdv ct), osl⟩) (hcd : PySem.W.codeIn K cdv qual = true) (S : GScope N ps scope)
    (len : ∀ vs H Yw Fw, sp vs H Yw Fw → vs.length = ps.length)
    (hbody : ∀ (A : Around) (outer : List Env) (s : Shared) (H : Hp) (vs : List V) (Yw : V → Hp → Prop) (Fw : Hp → Prop), Room k (A.deeper (envOfC qual scope s.heap.objs.size f cdv)) → sp vs H Yw Fw →
      ∃ t, FSs (gcxOf P w K mg base N qual scope f cdv A outer s H (fun _ _ _ => False) []).nox body t ∧ t { nx := fun _ H' => Fw H', rt := fun v H' => v = .non ∧ Fw H' } Yw (start N vs) H) :
    GFn1 P w K mg base (k + 1) f (PySem.W.fnOf name qual params body scope dV kV doc pm an cdv ct) ps sp := by
  refine ⟨len, fun A outer s H args us vs Yw Fw hr e0 hb r hsp => ?_⟩
  have hl := len _ _ _ _ hsp
  have KX : K.In s.heap := e0.mod.kin.keeps fun b o e => (e0.bs b o e).1
  have lim : s.heap.NoLimit := e0.mod.nolimit.keeps fun b o e => (e0.bs b o e).1
  have hkind : ∀ y ∈ ps.zip us, scope.names.lookup y.1 = some .local ∨ (scope.names.lookup y.1 = some .cell ∧ ((cellsFrom (s.heap.objs.size + 1) scope.names []).lookup y.1).isSome = true) := fun y hy => by
    rcases S.par y.1 (List.of_mem_zip hy).1 with q | q
    · exact .inl q
    · exact .inr ⟨q, PySem.W.cellsFrom_some _ _ _ (.inl q)⟩
  refine codeAny_call_generator hr.depth (KX _ _ lk) rfl S.co S.gen rfl (PySem.W.codeRec_of KX hcd) (hb _ _ _ _ ?_)
  refine wpAny_newFunctionEnv_cells S.kind hkind fun env he s1 x => ?_
  subst he
  have lim1 : s1.heap.NoLimit := lim.keeps x.toInCall.keep
  refine ⟨lim1, ?_⟩
  obtain ⟨h1, tk, es1, hk1⟩ := x.done
  have os1 : s1.os = s.os := by rw [es1]
  have gen1 : s1.gens = s.gens := by rw [es1]
  have kp1 : ∀ b o, s.heap.get? b = some o → s1.heap.get? b = some o := x.toInCall.keep
  have main : ∀ (go : Obj) (nm qn : Value) (tk2 : Nat), go.cls = .type "generator" → go.data = .fields #[.int s1.gens.size 0, nm, qn] → go.slots = #[] → (∀ h : Heap, (h.push go).get? h.objs.size = some go) →
      GMade1 P w (k + 1) outer H s Yw Fw (.ref s1.heap.objs.size) { s1 with gens := s1.gens.push (.fresh (.func body (envOfC qual scope s.heap.objs.size f cdv))), toks := tk2, heap := s1.heap.push go } := by
    intro go nm qn tk2 hgc hgd hgs hgp
    refine ⟨s1.heap.objs.size, s1.gens.size, _, rfl, ⟨go, nm, qn, hgp _, hgc, hgd, hgs⟩, Array.getElem?_push_size .., os1, AllBare.push (by rw [gen1]; exact e0.bare) rfl, lim1.keeps fun b o e => Heap.get?_push_of_some _ e, fun b o e => Heap.get?_push_of_some _ (kp1 b o e), ?_⟩
    intro Aw s2 hrw hfr hh2 hos hba
    have e0w : Env0 P w K mg base Aw outer s H := ⟨hfr, e0.mod, e0.bs, e0.bsz, e0.funs, e0.frf, e0.hok, e0.bare⟩
    obtain ⟨t, ht, hq⟩ := hbody Aw outer s H vs Yw Fw (hrw.deeper _) hsp
    have I1 : Inv (gcxOf P w K mg base N qual scope f cdv Aw outer s H (fun _ _ _ => False) []) [] (start N vs) H s1 := inv_startG S hrw.hd e0w hl r x
    have kp2 : ∀ b o, s1.heap.get? b = some o → s2.heap.get? b = some o := fun b o e => by rw [hh2]; exact Heap.get?_push_of_some _ e
    have I2 : Inv (gcxOf P w K mg base N qual scope f cdv Aw outer s H (fun _ _ _ => False) []) [] (start N vs) H s2 :=
      I1.call' (ch := []) hos (Un.kept kp2) (I1.hok.kept kp2) hba fun b z => by simp at z
    have back : ∀ {σ' : L2.St} {H' : Hp} {s' : Shared}, Inv (gcxOf P w K mg base N qual scope f cdv Aw outer s H (fun _ _ _ => False) []).nox [] σ' H' s' → Back P w outer H s s' H' := fun J => ⟨J.os, J.bare, J.base, J.hok⟩
    refine seg_func ?_
    refine seg_imp (Y := YF (gcxOf P w K mg base N qual scope f cdv Aw outer s H (fun _ _ _ => False) []).nox Yw) (R := REnd1 P w outer H s Fw) (fun n s₀ r s1' hR => hR) (fun n s₀ v s1' kap kap' _ hY => ?_) 1 ?_
    · obtain ⟨x, σ', H', J, rv, q⟩ := hY
      exact ⟨x, H', back J, rv, q⟩
    · refine ht.run Aw _ 0 s2 _ [] _ _ id id s2 (start N vs) H _ Yw ⟨over_func, rfl, rfl, rfl, fun _ _ z => z⟩ ⟨fun n s₀ s' fl hs => ?_⟩ (Inv.wish I2 _) hq
      cases fl with
      | next =>
        obtain ⟨σ', H', J, q⟩ := hs
        exact seg_end (.ok (.ret .none)) (.inl ⟨.inl rfl, H', back J, q⟩)
      | brk => obtain ⟨_, _, _, q⟩ := hs; exact False.elim q
      | cont => obtain ⟨_, _, _, q⟩ := hs; exact False.elim q
      | ret u =>
        obtain ⟨v, σ', H', J, rv, ev, q⟩ := hs
        subst ev
        obtain rfl : u = Value.none := rv
        exact seg_end (.ok (.ret .none)) (.inl ⟨.inl rfl, H', back J, q⟩)
  exact main _ _ _ _ rfl rfl rfl fun h => Heap.get?_push_size _ rfl

/-! ### for x in f(..): the turn leaves the loop -/
section
variable {X : Cx} {k : Nat} {f : Addr} {fd : FuncData} {ps : List Str} {sp : Sp1} {x : Str} {p pos pos' : Pos} {e tg : Expr} {es : List Expr} {t : TA} {body : List Stmt} {g : TG} {tb : TS}
def tFor1 (sp : Sp1) (t : TA) (g : TG) (tb : TS) : TS := fun D σ H => t σ H fun vs H1 => sp vs H1 (fun y H2 => g y σ H2 fun σ3 H3 => tb { D with nx := fun _ _ => False, ct := fun _ _ => False, bk := D.nx } σ3 H3) (fun H2 => D.nx σ H2)
theorem ps_for1 (nox : ∀ e s, ¬ X.xe e s) (hc : X.calm = true) (F : GFn1 X.prog X.w X.K X.mg X.base k f fd ps sp) (hr : Room (k + 1) X.A) (hg : Gl X x) (hm : X.mg x = some (.ref f)) (hk : PySem.W.keepIn X.K (.ref f) = true) (hb : Binds X.K fd ps [])
    (ha : PA X (e :: es) t) (hgt : PG X tg g) (hbd : PSs X body tb) (hlo : ∀ it v, letOwnedTupleGo tg it v = pure ()) (hdb : (x == ("__debug__" : Str)) = false := by decide) (he : starEach (e :: es) X.env = (false, eval e X.env) :: starEach es X.env := by rfl) (hpl : (backTo pos' (starEach es X.env)).any (·.1) = false := by rfl) :
    PS X (.For tg (.Call (.Name x p) (e :: es) [] pos') body [] pos) (tFor1 sp t g tb) := by
  refine ⟨fun pins s σ H D I h => ?_⟩
  refine wpAny_For ?_
  have call : wpAny (model X.prog X.w) X.A (eval (.Call (.Name x p) (e :: es) [] pos') X.env) (fun u s' => ∃ H1 sc, Inv X pins σ H1 sc ∧ GMade1 X.prog X.w k X.stack H1 sc (fun y H2 => g y σ H2 fun σ3 H3 => tb { D with nx := fun _ _ => False, ct := fun _ _ => False, bk := D.nx } σ3 H3) (fun H2 => D.nx σ H2) u s') X.xe s := by
    refine wpAny_Call_Name_kw (ld_glob I hg hm ?_ hdb)
    refine PySem.W.callWith_K (h₀ := X.base) I.ok.mod.kin hk (thn (ha.run pos' pins s σ H _ I h) fun us s1 ⟨vs, H1, I1, r, q⟩ => ⟨I1.kIn, ?_⟩) he hpl
    have hl2 : us.length = ps.length := by rw [← r.length]; exact F.len _ _ _ _ q
    refine wpAny_call (codeAny_mono (F.run X.A X.stack s1 H1 ⟨us, []⟩ us vs _ _ (hr.mono (Nat.le_succ k)) I1.env0 (by
      have := hb s1 us I1.kIn (by simpa using hl2)
      simpa using this) r q) fun r' s' hq => ?_)
    cases r' with
    | error e => exact False.elim hq
    | ok fl =>
      cases fl with
      | ret u => exact ⟨H1, s1, I1, hq⟩
      | next => exact False.elim hq
      | brk => exact False.elim hq
      | cont => exact False.elim hq
  refine thn call fun u s1 hu => ?_
  obtain ⟨H1, sc, I1, a, gn, c, rfl, hG, hgs, hos, hba, hlim, hkp, wake⟩ := hu
  refine wpAny_pyIter_gen hG ?_
  refine codeAny_forLoop_any (fun n s' => s' = s1) ?_ 0 rfl
  rintro n s3 rfl
  have noE : ∀ (Q : Value → Shared → Prop) e s', X.xe e s' → Q e s' := fun Q e s' z => (nox e s' z).elim
  have after : ∀ {s' : Shared} {H' : Hp}, Back X.prog X.w X.stack H1 sc s' H' → Inv X pins σ H' s' := fun {s' H'} ⟨b1, b2, b3, b4⟩ => I1.call' (ch := []) b1 b3 b4 b2 fun b z => by simp at z
  have hba2 : AllBare (s3.setGen gn .running).gens := allBare_setGen hba rfl
  refine next_genG (n := 1) (F := fun _ _ s1' => ∃ H', Back X.prog X.w X.stack H1 sc s1' H' ∧ D.nx σ H') (Er := fun _ _ => False) (I1.ok.hd hc) hlim hr.depth hG hgs ⟨rfl, wake X.A.in1 (s3.setGen gn .running) hr.in1 I1.ok.frames rfl rfl hba2⟩ (fun v s4 gs' hbare hY => ?_) (fun s4 hF h' hk' => ?_) (fun e s4 z => z.elim)
  · obtain ⟨y, H2, bk, rv, q⟩ := hY
    have I4 := after bk
    have I5 : Inv X pins σ H2 (s4.setGen gn gs') := I4.call' (ch := []) (H' := H2) (s' := s4.setGen gn gs') rfl (Un.kept fun _ _ z => z) I4.hok (allBare_setGen I4.bare hbare) fun b z => by simp at z
    refine wpAny_of_eq (hlo _ _) ?_
    refine wpAny_mono (hgt.run pins _ σ H2 y v _ I5 rv q) (fun _ s6 q6 => ?_) (fun e s' z => noE _ e s' z)
    obtain ⟨σ6, H6, I6, q6⟩ := q6
    refine wpAny_mono (hbd.run pins s6 σ6 H6 _ I6 q6) (fun fl s7 q7 => ?_) (fun e s' z => noE _ e s' z)
    cases fl with
    | next => obtain ⟨_, _, _, z⟩ := q7; exact False.elim z
    | cont => obtain ⟨_, _, _, z⟩ := q7; exact False.elim z
    | brk => exact q7
    | ret v => exact q7
  · obtain ⟨H2, bk, q⟩ := hF
    have I4 := after bk
    have I5 : Inv X pins σ H2 { s4.setGen gn .finished with heap := h' } := I4.call' (ch := []) (H' := H2) (s' := { s4.setGen gn .finished with heap := h' }) rfl (Un.kept hk') (I4.hok.kept hk') (allBare_setGen I4.bare rfl) fun b z => by simp at z
    exact wpAny_execs_nil ⟨σ, H2, I5, q⟩
end
end G1

namespace K7
open PySem PySem.Spec L2
/-- the places from the last one down, as far as i of them -/
def downs (n i : Nat) : List Nat := (List.range i).map fun k => n - 1 - k
theorem downs_succ (n i : Nat) : downs n (i + 1) = downs n i ++ [n - 1 - i] := by
  unfold downs
  rw [List.range_succ, List.map_append]
  rfl
theorem mem_downs {n q : Nat} : q ∈ downs n n ↔ q < n := by
  unfold downs
  rw [List.mem_map]
  constructor
  · rintro ⟨k, hk, rfl⟩
    have := List.mem_range.mp hk
    omega
  · intro h
    exact ⟨n - 1 - q, List.mem_range.mpr (by omega), by omega⟩
/-- the longer beginnings -/
def news (M1 M2 : Mx) (p : List Nat) (n i : Nat) : List (List Nat) := ((downs n i).filter (fitsB M1 M2 p)).map fun q => p ++ [q]
theorem news_in {M1 M2 : Mx} {p : List Nat} {n i : Nat} (h : fitsB M1 M2 p (n - 1 - i) = true) : news M1 M2 p n (i + 1) = news M1 M2 p n i ++ [p ++ [n - 1 - i]] := by
  unfold news
  rw [downs_succ, List.filter_append, List.map_append]
  simp [h]
theorem news_out {M1 M2 : Mx} {p : List Nat} {n i : Nat} (h : fitsB M1 M2 p (n - 1 - i) = false) : news M1 M2 p n (i + 1) = news M1 M2 p n i := by
  unfold news
  rw [downs_succ, List.filter_append, List.map_append]
  simp [h]
theorem news_len (M1 M2 : Mx) (p : List Nat) (n i : Nat) : (news M1 M2 p n i).length ≤ i := by
  unfold news downs
  rw [List.length_map]
  have := List.length_filter_le (fitsB M1 M2 p) ((List.range i).map fun k => n - 1 - k)
  rw [List.length_map, List.length_range] at this
  exact this
theorem news_lens {M1 M2 : Mx} {p : List Nat} {n i : Nat} {x : List Nat} (h : x ∈ news M1 M2 p n i) : x.length = p.length + 1 := by
  obtain ⟨q, _, rfl⟩ := List.mem_map.mp h
  rw [List.length_append, List.length_singleton]
theorem mem_news {M1 M2 : Mx} {p : List Nat} {n : Nat} (x : List Nat) : x ∈ news M1 M2 p n n ↔ ∃ q, q < n ∧ Fits M1 M2 p q ∧ x = p ++ [q] := by
  unfold news
  rw [List.mem_map]
  constructor
  · rintro ⟨q, hq, rfl⟩
    rw [List.mem_filter] at hq
    exact ⟨q, mem_downs.mp hq.1, fitsB_iff.mp hq.2, rfl⟩
  · rintro ⟨q, h1, h2, rfl⟩
    exact ⟨q, List.mem_filter.mpr ⟨mem_downs.mpr h1, fitsB_iff.mpr h2⟩, rfl⟩

theorem vR_drop {ts : List Addr} {b : Addr} : (vR (ts ++ [b])).dropLast = vR ts := by
  rw [← vR_snoc, List.dropLast_concat]
theorem Rws.unsnoc {S : Hp → Addr → List Int → Prop} {H : Hp} {as : List Addr} {R : List (List Int)} {r : List Int} (h : Rws S H as (R ++ [r])) : ∃ as' b, as = as' ++ [b] ∧ Rws S H as' R ∧ S H b r := by
  have hl := h.len
  rw [List.length_append, List.length_singleton] at hl
  have hne : as ≠ [] := fun e => by rw [e] at hl; simp at hl
  refine ⟨as.dropLast, as.getLast hne, (List.dropLast_concat_getLast hne).symm, ⟨by rw [List.length_dropLast]; omega, fun i c r' h1 h2 => ?_⟩, ?_⟩
  · have hi : i < R.length := (List.getElem?_eq_some_iff.mp h2).1
    refine h.at_ i c r' ?_ (by rw [List.getElem?_append_left hi]; exact h2)
    rw [List.getElem?_dropLast] at h1
    rw [if_pos (by omega)] at h1
    exact h1
  · refine h.at_ R.length _ r ?_ (by simp)
    rw [List.getLast_eq_getElem]
    have : as.length - 1 = R.length := by omega
    simp [this, hl]
section
variable {P : Program} {w : World} {K : PySem.W.Frag} {mg : Str → Option Value} {base : Heap}
/-! ### likenesses -/
def spLike (C CT : Addr) : G1.Sp1 := fun vs H Yw Fw => ∃ (p1 p2 : Addr) (bk : List Int) (n : Nat) (M1 M2 : Mx), vs = [.ref p1, .ref p2] ∧ CoM C CT H p1 bk n M1 ∧ CoM C CT H p2 bk n M2 ∧ n ≤ 7 ∧
  (∀ y H', Same H H' → Alike M1 M2 n → Yw y H') ∧ (∀ H', Same H H' → ¬ Alike M1 M2 n → Fw H')
abbrev nLike : List Str := ["one", "other", "many", "open_rows", "places", "place"]
theorem scLike : GScope nLike ["one", "other"] (defScope sLikenesses) := ⟨rfl, rfl, rfl, by decide +kernel, rfl, by decide +kernel, by decide +kernel⟩
theorem fs_like {f C CT CM : Addr} {cdv : Value} {A : Around} {outer : List Env} {s : Shared} {H : Hp} {vs : List V} {Yw : V → Hp → Prop} {Fw : Hp → Prop} (T : TxC K mg C) (TT : TxT K mg CT) (B : Blt mg) (O : ClsO P w K mg base C CT)
    (cL : Cal P w K mg base (L2.CX P w) 3 "_limit" ["company"] (spLimit C CT CM)) (cF : Cal P w K mg base CX0 2 "_fits" ["one", "other", "places", "place"] (spFits C CT))
    (hr : Room 3 (A.deeper (PyProof.Rows.envOfC "likenesses" (defScope sLikenesses) s.heap.objs.size f cdv))) (h : spLike C CT vs H Yw Fw) :
    ∃ t, G1.FSs (gcxOf P w K mg base nLike "likenesses" (defScope sLikenesses) f cdv A outer s H (fun _ _ _ => False) []).nox (defBody sLikenesses) t ∧ t { nx := fun _ H' => Fw H', rt := fun v H' => v = .non ∧ Fw H' } Yw (start nLike vs) H := by
  obtain ⟨p1, p2, bk, n, M1, M2, rfl, h1, h2, h7, ky, kf⟩ := h
  obtain ⟨g1, hg1, hc1⟩ := h1.comp
  obtain ⟨g2, hg2, hc2⟩ := h2.comp
  refine ⟨_, G1.fss_cons (G1.fs_ps (ps_expr (pe_cal (E := E0) cL hr passL (pa_cons (pv 0) pa_nil))))
    (G1.fss_cons (G1.fs_ps (ps_expr (pe_cal (E := E0) cL hr passL (pa_cons (pv 1) pa_nil))))
    (G1.fss_cons (G1.fs_ps (ps_set (i := 2) scLike.nd rfl (Or.inl rfl) (pe_b (call_lenO O hr) B.len PySem.boot_len (pa_cons (pv 0) pa_nil))))
    (G1.fss_one (G1.fs_if (PW.pt (pw_and (pt_cmpR (op_eqD hr.units) (pe_fld (pe_fld (pv 0) rfl) rfl) (pe_fld (pe_fld (pv 1) rfl) rfl) (nomark _)) (pw_and1 (pt_cmpR op_eq (pv 2) (pe_b (call_lenO O hr) B.len PySem.boot_len (pa_cons (pv 1) pa_nil)) (nomark _)))))
      (G1.fss_cons (G1.fs_ps (ps_set (i := 3) scLike.nd rfl (Or.inl rfl) (pe_lst (pa_cons (pe_tup pa_nil) pa_nil))))
      (G1.fss_one (G1.fs_while (pt_cmpR (op_neD hr.units) (pv 3) (pe_lst pa_nil) (nomark _))
        (G1.fss_cons (G1.fs_ps (ps_set (i := 4) scLike.nd rfl (Or.inl rfl) (pe_bm0 PySem.F.plainAttrs_list PySem.F.slot_list_pop PySem.F.type_list_pop mt_pop (pv 3))))
        (G1.fss_one (G1.fs_if (pt_cmpR op_eq (pe_b call_len_seq B.len PySem.boot_len (pa_cons (pv 4) pa_nil)) (pv 2) (nomark _))
          (G1.fss_one (G1.fs_yield (pe_t call_tuple_of B.tuple PyProof.Rows.boot_tuple (pa_cons
            (pe_lc (own := [("place", 5)]) (g := gName 5) (tt := tYes) (te := tOp (rIxT K) (tFld K (tVar 1) "guests") (tVar 5)) rfl scLike.nd (pi_tup (pv 4)) (blkOk_by (N := nLike) (sc := defScope sLikenesses) (by decide +kernel)) (fun _ _ _ _ _ => pg_name (i := 5) scLike.nd rfl (Or.inl rfl)) (fun _ _ _ _ _ => pts_nil)
              (fun _ _ _ _ _ => pe_ix (r := rIxT K) ix_tup (pe_fld (pv 1) rfl) (pv 5) (fun _ _ => rfl))) pa_nil))))
          (G1.fss_pss (pss_one (ps_for PassesOwn.never rfl (pi_revR rfl B.reversed (prg_1 rfl B.range (pv 2))) (pg_name (i := 5) scLike.nd rfl (Or.inl rfl))
            (pss_one (ps_if (pt_val (pe_cal cF hr pass0 (pa_cons (pv 0) (pa_cons (pv 1) (pa_cons (pv 4) (pa_cons (pv 5) pa_nil))))))
              (pss_one (ps_expr (pe_bm PySem.F.plainAttrs_list PySem.F.slot_list_append PySem.F.type_list_append mt_append (pv 3) (pa_cons (pe_tup (StX.pa_star (pv 4) (pa_cons (pv 5) pa_nil))) pa_nil)))) pss_nil)))))))))))
      G1.fss_nil)))), ?_⟩
  refine ⟨_, rfl, p1, bk, g1, rowsM M1 n, rfl, hc1, by omega, fun _ => ?_, fun z => absurd z (by omega)⟩
  refine ⟨_, rfl, p2, bk, g2, rowsM M2 n, rfl, hc2, by omega, fun _ => ?_, fun z => absurd z (by omega)⟩
  refine ⟨_, rfl, p1, bk, g1, rowsM M1 n, rfl, hc1, by omega, ?_⟩
  rw [hg1]
  have hc2' := hc2
  obtain ⟨dx, tt, gt, rt, rs, i1, ⟨td, bt, j2, j3⟩, i4, i5, i6⟩ := hc1
  obtain ⟨dx', tt', gt', rt', rs', i1', ⟨td', bt', j2', j3'⟩, i4', i5', i6'⟩ := hc2
  refine ⟨_, rfl, p1, C, dx, _, _, rfl, i1, T.cl, T.nT, cfs_ties _ _ _, tt, CT, td, _, _, rfl, j2, TT.cl, TT.nB, tfs_backs _ _, ?_⟩
  refine ⟨_, rfl, p2, C, dx', _, _, rfl, i1', T.cl, T.nT, cfs_ties _ _ _, tt', CT, td', _, _, rfl, j2', TT.cl, TT.nB, tfs_backs _ _, ?_⟩
  refine ⟨dI bk, dI bk, dp_tI j3, dp_tI j3', sh_dI _, sh_dI _, _, rfl, ?_⟩
  rw [eqv_dI, decide_eq_true rfl]
  refine iteT ⟨_, rfl, _, rfl, p2, bk, g2, rowsM M2 n, rfl, hc2', by omega, rfl, _, rfl, ?_⟩
  rw [hg2, decide_eq_true rfl]
  refine iteT ?_
  -- open_rows = [()]
  refine ⟨by show 0 ≤ sizeLine; decide, fun t ht => ⟨by show 1 ≤ sizeLine; decide, fun D hD => ?_⟩⟩
  have S1 : Same H (upd H t (.tup [])) := Same.upd_new ht
  have hD0 : H D = none := S1.free hD
  have S2 := Same.new (o := .lst [.ref t]) S1 hD
  have t2 : tI (upd (upd H t (.tup [])) D (.lst [.ref t])) t (iN []) := Same.upd_new (o := .lst [.ref t]) hD _ _ upd_same
  have D2 : upd (upd H t (.tup [])) D (.lst [.ref t]) D = some (.lst (vR [t])) := upd_same
  generalize hH2 : upd (upd H t (.tup [])) D (.lst [.ref t]) = H2 at S2 t2 D2
  have hw0 : wtS n [[]] ≤ 1000000 := by
    show (([[]] : List (List Nat)).map fun p => wt n (n - p.length)).sum ≤ 1000000
    have := wt7 n n h7 h7
    simpa using this
  refine ⟨fun m σ H' => ∃ (st : List (List Nat)) (ts : List Addr) (v4 v5 : Option V), σ = [some (.ref p1), some (.ref p2), some (.int n), some (.ref D), v4, v5] ∧ Same H H' ∧ H' D = some (.lst (vR ts)) ∧ Rws tI H' ts (st.map iN) ∧ Stack M1 M2 n st ∧ (∀ p ∈ st, p.length ≤ n) ∧ m = wtS n st ∧ m ≤ 1000000,
    ⟨wtS n [[]], [[]], [t], none, none, rfl, S2, D2, ?_, Stack.start M1 M2 n, ?_, rfl, hw0⟩, ?_⟩
  · exact (Rws.nil (S := tI) (H := H2)).snoc t2
  · intro p hp
    rw [List.mem_singleton] at hp
    subst hp
    exact Nat.zero_le _
  rintro m σ H' ⟨st, ts, v4, v5, rfl, s1, hDt, hts, hst, hlen, rfl, hm⟩
  refine ⟨_, rfl, by show 0 ≤ sizeLine; decide, fun L hL => ?_⟩
  have s2 := Same.new (o := .lst []) s1 hL
  have u2 : Same H' (upd H' L (.lst [])) := Same.upd_new hL
  have hD2 := u2 _ _ hDt
  have hts2 := hts.same (tI_same u2)
  have L2e : upd H' L (.lst []) L = some (.lst (vR [])) := upd_same
  generalize hH3 : upd H' L (.lst []) = H3 at s2 u2 hD2 hts2 L2e
  refine ⟨dLT (st.map iN), dLT [], dp_dLT hD2 hts2, dp_dLT L2e Rws.nil, sh_dLT _, sh_dLT _, _, rfl, ?_⟩
  rw [eqv_dLT]
  rcases List.eq_nil_or_concat st with e | ⟨st', p, e⟩
  · subst e
    exact iteF (kf _ s2 hst.empty)
  · rw [List.concat_eq_append] at e
    subst e
    have hne : ¬ ((st' ++ [p]).map iN = ([] : List (List Int))) := by simp
    rw [decide_eq_false hne]
    refine iteT ⟨fun σ' H' => ∃ m', m' < wtS n (st' ++ [p]) ∧ ∃ (st : List (List Nat)) (ts : List Addr) (v4 v5 : Option V), σ' = [some (.ref p1), some (.ref p2), some (.int n), some (.ref D), v4, v5] ∧ Same H H' ∧ H' D = some (.lst (vR ts)) ∧ Rws tI H' ts (st.map iN) ∧ Stack M1 M2 n st ∧ (∀ p ∈ st, p.length ≤ n) ∧ m' = wtS n st ∧ m' ≤ 1000000, fun σ' H' z => z, ?_⟩
    rw [List.map_append] at hts2
    obtain ⟨ts', b, rfl, hts3, hb⟩ := hts2.unsnoc
    -- places = open_rows.pop()
    have hlast : (vR (ts' ++ [b]))[(vR (ts' ++ [b])).length - 1]? = some (.ref b) := by
      rw [vR_len, List.length_append, List.length_singleton, Nat.add_sub_cancel]
      exact vR_at (by simp)
    refine ⟨_, rfl, .inl ⟨rfl, _, SqL.of hD2⟩, D, _, _, rfl, rfl, hD2, hlast, ?_⟩
    rw [vR_drop]
    have s3 : Same H (upd H3 D (.lst (vR ts'))) := Same.put s2 hD0
    have hb3 : tI (upd H3 D (.lst (vR ts'))) b (iN p) := tI_put hD2 _ _ hb
    have hts4 := hts3.same (tI_put (o := .lst (vR ts')) hD2)
    have D4 : upd H3 D (.lst (vR ts')) D = some (.lst (vR ts')) := upd_same
    generalize hH4 : upd H3 D (.lst (vR ts')) = H4 at s3 hb3 hts4 D4
    have hpp : Part M1 M2 n p := hst.parts p (List.mem_append_right _ (List.mem_singleton.mpr rfl))
    have hpl := hlen p (List.mem_append_right _ (List.mem_singleton.mpr rfl))
    refine ⟨_, rfl, _, _, rfl, .inr (SqT.of hb3), _, rfl, rfl, _, rfl, ?_⟩
    rw [vI_len, iN_len]
    by_cases hfull : p.length = n
    · have e1 : decide (V.int ((p.length : Nat) : Int) = V.int ((n : Nat) : Int)) = true := decide_eq_true (by rw [hfull])
      rw [e1]
      refine iteT ?_
      have hal := hpp.full hfull
      refine ⟨_, rfl, b, rfl, ⟨_, SqT.of hb3⟩, fun E hE => lc_tup (K := K) (a := b) (xs := vI (iN p)) (fun i H5 => Same H H5 ∧ Same H4 H5 ∧ ∃ xs, H5 E = some (.lst xs) ∧ xs.length = i) ⟨Same.new s3 hE, Same.upd_new hE, [], upd_same, rfl⟩ (fun i H5 _ z => SqT.of (z.2.1 _ _ hb3)) ?_ ?_⟩
      · rintro i x H5 hi ⟨s5, s6, xs, hx, hxl⟩
        obtain ⟨a, ha, rfl⟩ := vI_get hi
        rw [List.getElem?_map] at ha
        obtain ⟨q, hq, rfl⟩ := Option.map_eq_some_iff.mp ha
        have hil : i < p.length := (List.getElem?_eq_some_iff.mp hq).1
        have hqn : q < n := hpp.ord.lt q (List.mem_of_getElem? hq)
        have hE0 : H4 E = none := hE
        refine ⟨rfl, yesT ?_⟩
        refine ⟨_, rfl, p2, C, dx', _, _, rfl, s5 _ _ i1', T.cl, T.nG, cfs_guests _ _ _, _, rfl, _, _, _, _, rfl, rfl, SqT.of (s5 _ _ i4'), at_of (j := q) rfl (vI_at (by omega)), _, hx, by rw [hxl]; exact size_lt (by omega), Same.put s5 (s3.free hE), Same.put s6 hE, _, upd_same, ?_⟩
        rw [List.length_append, hxl]; rfl
      · rintro H5 ⟨s5, s6, xs, hx, hxl⟩
        exact ⟨_, _, rfl, .inl ⟨SqL.of hx, fun u hu => ky _ _ (Same.new s5 hu) hal⟩⟩
    · have e1 : decide (V.int ((p.length : Nat) : Int) = V.int ((n : Nat) : Int)) = false := decide_eq_false fun e => hfull (by have := V.int.inj e; omega)
      rw [e1]
      refine iteF ?_
      have hlt : p.length < n := by omega
      have hwt : ∀ i, i ≤ n → (st' ++ news M1 M2 p n i).length ≤ 1000000 := fun i hi => by
        have h1 : wtS n (st' ++ news M1 M2 p n i) < wtS n (st' ++ [p]) := wtS_turn hlt (Nat.le_trans (news_len M1 M2 p n i) hi) fun x hx => news_lens hx
        exact Nat.le_trans (wtS_len n _) (by omega)
      refine ⟨_, rfl, _, rfl, by omega, by omega, by omega, by omega, ?_⟩
      have e0 : (((n : Nat) : Int) - 0).toNat = n := by omega
      rw [e0]
      refine for_rangeC (fun i σ H5 => (∃ v5, σ = [some (.ref p1), some (.ref p2), some (.int n), some (.ref D), some (.ref b), v5]) ∧ Same H H5 ∧ tI H5 b (iN p) ∧ ∃ ts, H5 D = some (.lst (vR ts)) ∧ Rws tI H5 ts ((st' ++ news M1 M2 p n i).map iN)) ⟨⟨_, rfl⟩, s3, hb3, ts', D4, ?_⟩ ?_ ?_
      · have : news M1 M2 p n 0 = [] := rfl
        rw [this, List.append_nil]
        exact hts4
      · rintro i σ H5 hi ⟨⟨v5, rfl⟩, s5, hb5, ts5, D5, hts5⟩
        have eq : (0 : Int) + (n : Int) - 1 + ((i : Nat) : Int) * (-1) = ((n - 1 - i : Nat) : Int) := by omega
        refine ⟨_, rfl, _, rfl, _, rfl, _, rfl, p1, p2, b, bk, bk, n, M1, M2, p, n - 1 - i, ?_, h1.same s5, h2.same s5, hb5, hpp.ord, hlt, by omega, by omega, ?_⟩
        · rw [← eq]; rfl
        · cases hfit : fitsB M1 M2 p (n - 1 - i) with
          | false =>
            refine ⟨_, rfl, iteF ⟨⟨_, rfl⟩, s5, hb5, ts5, D5, ?_⟩⟩
            rw [news_out hfit]; exact hts5
          | true =>
            refine ⟨_, rfl, iteT ⟨_, rfl, .inl ⟨rfl, _, SqL.of D5⟩, _, rfl, b, _, rfl, .inl (SqT.of hb5), _, rfl, ?_, fun u hu => ?_⟩⟩
            · show (vI (iN p) ++ [_]).length ≤ sizeLine
              rw [List.length_append, vI_len, iN_len]
              exact size_of (by show p.length + 1 ≤ 1000000; omega)
            · have s6 : Same H5 (upd H5 u (.tup (vI (iN p) ++ [V.int ((0 : Int) + (n : Int) - 1 + ((i : Nat) : Int) * (-1))]))) := Same.upd_new hu
              have u6 : tI (upd H5 u (.tup (vI (iN p) ++ [V.int ((0 : Int) + (n : Int) - 1 + ((i : Nat) : Int) * (-1))]))) u (iN (p ++ [n - 1 - i])) := by
                show upd H5 u _ u = _
                rw [upd_same, eq, vI_snoc]
                simp
              have s6' := Same.new (o := .tup (vI (iN p) ++ [V.int ((0 : Int) + (n : Int) - 1 + ((i : Nat) : Int) * (-1))])) s5 hu
              have D6 := s6 _ _ D5
              have hts6 := hts5.same (tI_same s6)
              have hb6 := s6 _ _ hb5
              refine ⟨D, vR ts5, _, rfl, rfl, D6, ?_, ⟨_, rfl⟩, Same.put s6' hD0, tI_put D6 _ _ hb6, ts5 ++ [u], by rw [upd_same, ← vR_snoc], ?_⟩
              · rw [vR_len, hts5.len, List.length_map]
                exact size_lt (by have := hwt i (by omega); omega)
              · rw [news_in hfit, ← List.append_assoc, List.map_append]
                exact (hts6.same (tI_put D6)).snoc (tI_put D6 _ _ u6)
      · rintro σ H5 ⟨⟨v5, rfl⟩, s5, hb5, ts5, D5, hts5⟩
        have hw : wtS n (st' ++ news M1 M2 p n n) < wtS n (st' ++ [p]) := wtS_turn hlt (news_len M1 M2 p n n) fun x hx => news_lens hx
        refine ⟨_, hw, st' ++ news M1 M2 p n n, ts5, _, _, rfl, s5, D5, hts5, hst.turn hlt _ mem_news, fun x hx => ?_, rfl, by omega⟩
        rcases List.mem_append.mp hx with hx | hx
        · exact hlen x (List.mem_append_left _ hx)
        · have := news_lens hx
          omega
end
end K7

namespace K7
open PySem PySem.Spec L2
/-- the rest of a block, told first -/
theorem seq_by {t u : TS} {D : Ends} {σ : L2.St} {H : Hp} (Pt : L2.St → Hp → Prop) (hu : ∀ σ' H', Pt σ' H' → u D σ' H') (h : (∀ σ' H', Pt σ' H' → u D σ' H') → tSeq t u D σ H) : tSeq t u D σ H := h hu
theorem sql_same {K : PySem.W.Frag} {H H' : Hp} {a : Addr} {xs : List V} (s : Same H H') (h : SqL K H a xs) : SqL K H' a xs := by
  rcases h with h | h
  · rcases h with h | ⟨o, h⟩
    · exact .inl (.inl (s _ _ h))
    · exact .inl (.inr ⟨o, s _ _ h⟩)
  · exact .inr h
/-! ### the hand -/
structure Hnd (H : Hp) (h c : Addr) : Prop where
  ex : ∃ (cs : List Int) (i r t : Int), H h = some (.lst [.ref c, .int i, .int r, .int t]) ∧ H c = some (.lst (vI cs)) ∧ 0 ≤ i
def NotHand (o : HO) : Prop := ∀ (c : Addr) (i r t : Int), o ≠ .lst [.ref c, .int i, .int r, .int t]
theorem nh_int (ns : List Int) : NotHand (.lst (vI ns)) := fun c i r t e => by
  have e := HO.lst.inj e
  cases ns with
  | nil => cases e
  | cons a b => rw [vI, List.map_cons] at e; injection e with e1 _; cases e1
theorem nh_ref (as : List Addr) : NotHand (.lst (vR as)) := fun c i r t e => by
  have e := HO.lst.inj e
  cases as with
  | nil => cases e
  | cons a b =>
    cases b with
    | nil => rw [vR, List.map_cons, List.map_nil] at e; injection e with _ e2; cases e2
    | cons x y => rw [vR, List.map_cons, List.map_cons] at e; injection e with _ e2; injection e2 with e3 _; cases e3
theorem nh_tup (xs : List V) : NotHand (.tup xs) := fun c i r t e => by cases e
theorem nh_ins (C dx : Addr) (fs : List (Str × V)) : NotHand (.ins C dx fs) := fun c i r t e => by cases e
theorem Hnd.nec {H : Hp} {h c : Addr} (x : Hnd H h c) : c ≠ h := by
  obtain ⟨cs, i, r, t, h1, h2, _⟩ := x.ex
  intro e
  rw [e, h1] at h2
  exact nh_int cs c i r t (Option.some.inj h2).symm
theorem Hnd.same {H H' : Hp} {h c : Addr} (x : Hnd H h c) (s : Same H H') : Hnd H' h c := by
  obtain ⟨cs, i, r, t, h1, h2, h3⟩ := x.ex
  exact ⟨cs, i, r, t, s _ _ h1, s _ _ h2, h3⟩
theorem Hnd.h_some {H : Hp} {h c : Addr} (x : Hnd H h c) : H h ≠ none := by
  obtain ⟨cs, i, r, t, h1, h2, h3⟩ := x.ex
  rw [h1]; intro z; cases z
theorem Hnd.c_some {H : Hp} {h c : Addr} (x : Hnd H h c) : H c ≠ none := by
  obtain ⟨cs, i, r, t, h1, h2, h3⟩ := x.ex
  rw [h2]; intro z; cases z
/-- all but the hand is as it was -/
structure Kp (h c : Addr) (H H' : Hp) : Prop where
  h0 : Hnd H h c
  h1 : Hnd H' h c
  but : But h H H'
section
variable {h c : Addr} {H H1 H2 : Hp}
theorem Kp.refl (x : Hnd H h c) : Kp h c H H := ⟨x, x, But.refl h H⟩
theorem Kp.trans (a : Kp h c H H1) (b : Kp h c H1 H2) : Kp h c H H2 := ⟨a.h0, b.h1, a.but.trans b.but⟩
theorem Kp.same (a : Kp h c H H1) (s : Same H1 H2) : Kp h c H H2 := ⟨a.h0, a.h1.same s, a.but.trans (But.of s)⟩
theorem Kp.of (x : Hnd H h c) (s : Same H H1) : Kp h c H H1 := (Kp.refl x).same s
theorem Kp.free (a : Kp h c H H1) {q : Addr} (e : H1 q = none) : H q = none := by
  cases hq : H q with
  | none => rfl
  | some o =>
    by_cases z : q = h
    · rw [z] at e; exact absurd e a.h1.h_some
    · rw [a.but q o z hq] at e; cases e
theorem Kp.new (a : Kp h c H H1) {q : Addr} {o : HO} (e : H1 q = none) : Kp h c H (upd H1 q o) := a.same (Same.upd_new e)
theorem Hnd.put {D : Addr} {o : HO} (x : Hnd H1 h c) (h1 : D ≠ h) (h2 : D ≠ c) : Hnd (upd H1 D o) h c := by
  obtain ⟨cs, i, r, t, a1, a2, a3⟩ := x.ex
  exact ⟨cs, i, r, t, by rw [upd_ne h1.symm]; exact a1, by rw [upd_ne h2.symm]; exact a2, a3⟩
theorem Kp.put (a : Kp h c H H1) {D : Addr} {o : HO} (e : H D = none) : Kp h c H (upd H1 D o) := by
  refine ⟨a.h0, a.h1.put (fun z => ?_) (fun z => ?_), fun b u n q => ?_⟩
  · rw [z] at e; exact a.h0.h_some e
  · rw [z] at e; exact a.h0.c_some e
  · rw [upd_ne (ne_of_none q e)]
    exact a.but b u n q
theorem Kp.ref (a : Kp h c H H1) {b : Addr} {o : HO} (n : NotHand o) (e : H b = some o) : H1 b = some o := by
  refine a.but b o (fun z => ?_) e
  obtain ⟨cs, i, r, t, a1, _⟩ := a.h0.ex
  rw [z, a1] at e
  exact n c i r t (Option.some.inj e).symm
theorem Kp.lI (a : Kp h c H H1) {b : Addr} {r : List Int} (e : lI H b r) : lI H1 b r := a.ref (nh_int r) e
theorem Kp.tI (a : Kp h c H H1) {b : Addr} {r : List Int} (e : tI H b r) : tI H1 b r := a.ref (nh_tup _) e
theorem Kp.lR (a : Kp h c H H1) {b : Addr} {r : List Addr} (e : H b = some (.lst (vR r))) : H1 b = some (.lst (vR r)) := a.ref (nh_ref r) e
theorem Kp.rwsL (a : Kp h c H H1) {as : List Addr} {R : List (List Int)} (e : Rws K7.lI H as R) : Rws K7.lI H1 as R := e.imp fun _ _ _ q => a.lI q
theorem Kp.rwsT (a : Kp h c H H1) {as : List Addr} {R : List (List Int)} (e : Rws K7.tI H as R) : Rws K7.tI H1 as R := e.imp fun _ _ _ q => a.tI q
theorem Kp.ties (a : Kp h c H H1) {CT p : Addr} {bk : List Int} (e : TiesAt CT H p bk) : TiesAt CT H1 p bk := by
  obtain ⟨dx, t, h1, h2⟩ := e
  exact ⟨dx, t, a.ref (nh_ins _ _ _) h1, a.ref (nh_tup _) h2⟩
theorem Kp.comp (a : Kp h c H H1) {C CT p : Addr} {bk g : List Int} {R : List (List Int)} (e : CompAt C CT H p bk g R) : CompAt C CT H1 p bk g R := by
  obtain ⟨dx, tt, gt, rt, rs, h1, h2, h3, h4, h5⟩ := e
  exact ⟨dx, tt, gt, rt, rs, a.ref (nh_ins _ _ _) h1, a.ties h2, a.ref (nh_tup _) h3, a.ref (nh_tup _) h4, a.rwsT h5⟩
theorem Kp.coM (a : Kp h c H H1) {C CT p : Addr} {bk : List Int} {n : Nat} {M : Mx} (e : CoM C CT H p bk n M) : CoM C CT H1 p bk n M := by
  obtain ⟨h1, h2, g, h3, h4⟩ := e
  exact ⟨h1, h2, g, h3, a.comp h4⟩
end
section
variable {P : Program} {w : World} {K : PySem.W.Frag} {mg : Str → Option Value} {base : Heap}
/-! ### are_alike -/
theorem gf_like {f C CT CM : Addr} {fd : FuncData} (F : Fun K "likenesses" "likenesses" sLikenesses f fd) (T : TxC K mg C) (TT : TxT K mg CT) (B : Blt mg) (O : ClsO P w K mg base C CT)
    (cL : Cal P w K mg base (L2.CX P w) 3 "_limit" ["company"] (spLimit C CT CM)) (cF : Cal P w K mg base CX0 2 "_fits" ["one", "other", "places", "place"] (spFits C CT)) : G1.GFn1 P w K mg base 4 f fd ["one", "other"] (spLike C CT) := by
  obtain ⟨oc, od, kV, doc, pm, an, cdv, ct, osl, rfl, lk, hcd⟩ := F.ex
  refine G1.gfn1_of lk hcd scLike (fun vs H Yw Fw h => ?_) fun A outer s H vs Yw Fw hr h => fs_like T TT B O cL cF hr h
  obtain ⟨p1, p2, bk, n, M1, M2, rfl, _⟩ := h
  rfl
def spAlike (C CT : Addr) : Sp := fun vs H Q _ => ∃ (p1 p2 : Addr) (bk : List Int) (n : Nat) (M1 M2 : Mx), vs = [.ref p1, .ref p2] ∧ CoM C CT H p1 bk n M1 ∧ CoM C CT H p2 bk n M2 ∧ n ≤ 7 ∧
  ∀ b H', Same H H' → (b = true ↔ Alike M1 M2 n) → Q (.bl b) H'
theorem scAlike : FnScope ["one", "other", "found"] ["one", "other"] (defScope sAreAlike) := ⟨rfl, rfl, rfl, by decide +kernel, rfl, by decide +kernel, by decide +kernel⟩
structure CalG (P : Program) (w : World) (K : PySem.W.Frag) (mg : Str → Option Value) (base : Heap) (k : Nat) (x : Str) (ps : List Str) (sp : G1.Sp1) : Prop where
  ex : ∃ (f : Addr) (fd : FuncData), G1.GFn1 P w K mg base k f fd ps sp ∧ mg x = some (.ref f) ∧ PySem.W.keepIn K (.ref f) = true ∧ Binds K fd ps []
theorem ok_alike {f C CT CM : Addr} {fd : FuncData} (F : Fun K "are_alike" "are_alike" sAreAlike f fd) (cL : Cal P w K mg base (L2.CX P w) 3 "_limit" ["company"] (spLimit C CT CM)) (cG : CalG P w K mg base 4 "likenesses" ["one", "other"] (spLike C CT)) :
    FnOk P w K mg base CX0 6 f fd ["one", "other"] (spAlike C CT) := by
  refine F.ok scAlike (fun vs H Q E h => ?_) (fun cdv A outer s H vs Q E hr h => ?_)
  · obtain ⟨p1, p2, bk, n, M1, M2, rfl, _⟩ := h
    rfl
  · obtain ⟨p1, p2, bk, n, M1, M2, rfl, h1, h2, h7, k⟩ := h
    obtain ⟨g1, hg1, hc1⟩ := h1.comp
    obtain ⟨g2, hg2, hc2⟩ := h2.comp
    obtain ⟨fg, fdg, G, mgG, kG, bG⟩ := cG.ex
    refine ⟨_, pss_cons (ps_expr (pe_cal (E := E0) cL hr passL (pa_cons (pv 0) pa_nil)))
      (pss_cons (ps_expr (pe_cal (E := E0) cL hr passL (pa_cons (pv 1) pa_nil)))
      (pss_cons (G1.ps_for1 (fun _ _ z => z) rfl G hr rfl mgG kG bG (pa_cons (pv 0) (pa_cons (pv 1) pa_nil)) (pg_name (i := 2) scAlike.nd rfl (Or.inl rfl)) (pss_one (ps_ret pe_bl)) (fun _ _ => rfl))
      (pss_one (ps_ret pe_bl)))), ?_⟩
    refine ⟨_, rfl, p1, bk, g1, rowsM M1 n, rfl, hc1, by omega, fun _ => ?_, fun z => absurd z (by omega)⟩
    refine ⟨_, rfl, p2, bk, g2, rowsM M2 n, rfl, hc2, by omega, fun _ => ?_, fun z => absurd z (by omega)⟩
    refine ⟨_, rfl, _, rfl, p1, p2, bk, n, M1, M2, rfl, h1, h2, h7, fun y H' s1 ha => ?_, fun H' s1 hn => ?_⟩
    · exact k true H' s1 ⟨fun _ => ha, fun _ => rfl⟩
    · exact k false H' s1 ⟨fun z => absurd z Bool.false_ne_true, fun z => absurd z hn⟩

/-! ### _law_says, _law_mix, _law_hand, _law_draw -/
def spSays : Sp := fun vs H Q _ => ∃ a b : Bool, vs = [.bl a, .bl b] ∧ Q (.bl (decide (a = b))) H
theorem scSays : FnScope ["_law_told", "_law_due"] ["_law_told", "_law_due"] (defScope sSays) := ⟨rfl, rfl, rfl, by decide +kernel, rfl, by decide +kernel, by decide +kernel⟩
theorem ok_says {f : Addr} {fd : FuncData} (F : Fun K "_law_says" "_law_says" sSays f fd) (B : Blt mg) : FnOk P w K mg base CX0 1 f fd ["_law_told", "_law_due"] spSays := by
  refine F.ok scSays (fun vs H Q E h => ?_) (fun cdv A outer s H vs Q E hr h => ?_)
  · obtain ⟨a, b, rfl, _⟩ := h
    rfl
  · obtain ⟨a, b, rfl, k⟩ := h
    refine ⟨_, pss_one (ps_ret (pe_and (pe_b call_isi B.isinstance PyProof.Rows.boot_isinstance (pa_cons (pv 0) (pa_cons (pe_bltn (v := .ty "bool") (by rfl) B.bool PyProof.Rows.boot_bool rfl) pa_nil)))
      (pe_one (pe_cmpR op_eq (pv 0) (pv 1) (nomark _))))), ?_⟩
    refine ⟨_, rfl, _, _, _, _, true, rfl, .ty _, .base (.bl _), kit_ty (by decide +kernel), _, rfl, iteT ?_⟩
    refine ⟨_, rfl, _, rfl, rfl, ?_⟩
    have e : decide (V.bl a = V.bl b) = decide (a = b) := by cases a <;> cases b <;> rfl
    rw [e]; exact k
def spMix : Sp := fun vs H Q _ => ∃ a t : Int, vs = [.int a, .int t] ∧ ∀ v, Q (.int v) H
abbrev nMix : List Str := ["_law_number", "_law_turn", "_law_once", "_law_twice"]
theorem scMix : FnScope nMix ["_law_number", "_law_turn"] (defScope sMix) := ⟨rfl, rfl, rfl, by decide +kernel, rfl, by decide +kernel, by decide +kernel⟩
theorem cm_r {i j : Int} (h : -(2 ^ 64) < j) (h2 : j < 2 ^ 64) : CMul i j := .inr ⟨h, h2⟩
theorem ok_mix {f : Addr} {fd : FuncData} (F : Fun K "_law_mix" "_law_mix" sMix f fd) (B : Blt mg) : FnOk P w K mg base CX0 1 f fd ["_law_number", "_law_turn"] spMix := by
  refine F.ok scMix (fun vs H Q E h => ?_) (fun cdv A outer s H vs Q E hr h => ?_)
  · obtain ⟨a, t, rfl, _⟩ := h
    rfl
  · obtain ⟨a, t, rfl, k⟩ := h
    refine ⟨_, pss_cons (ps_set (i := 2) scMix.nd rfl (Or.inl rfl) (pe_op op_mod (pe_t call_int1 B.int PyProof.Rows.boot_int (pa_cons (pe_op op_add (pe_op op_add (pe_op op_mul (pv 0) pe_int) (pe_op op_mul (pv 1) pe_int)) pe_int) pa_nil)) pe_int))
      (pss_cons (ps_set (i := 3) scMix.nd rfl (Or.inl rfl) (pe_op op_mod (pe_t call_int1 B.int PyProof.Rows.boot_int (pa_cons (pe_op op_add (pe_op op_add (pe_op op_mul (pv 2) (pv 2)) (pe_op op_mul (pe_op op_fdiv (pv 2) pe_int) pe_int)) (pe_op op_mul (pv 1) pe_int)) pa_nil)) pe_int))
      (pss_one (ps_ret (pe_op op_fdiv (pe_op op_mod (pe_t call_int1 B.int PyProof.Rows.boot_int (pa_cons (pe_op op_add (pe_op op_fdiv (pe_op op_mul (pv 3) (pv 3)) pe_int) (pv 2)) pa_nil)) pe_int) pe_int)))), ?_⟩
    refine ⟨_, rfl, _, _, rfl, rfl, cm_r (by decide) (by decide), _, rfl, _, _, rfl, rfl, cm_r (by decide) (by decide), _, _, rfl, rfl, _, _, rfl, rfl, .inl ⟨_, rfl, _, _, rfl, rfl, (show (0 : Int) < 2147483647 by decide), ?_⟩⟩
    generalize ho : (a * 48271 + t * 16807 + 11) % 2147483647 = o1
    have o0 : 0 ≤ o1 ∧ o1 < 2147483647 := by rw [← ho]; constructor <;> omega
    refine ⟨_, rfl, _, rfl, _, _, rfl, rfl, cm_r (by omega) (by omega), _, rfl, _, _, rfl, rfl, ⟨by decide, by decide⟩, _, _, rfl, rfl, cm_r (by decide) (by decide), _, _, rfl, rfl, _, rfl, _, _, rfl, rfl, cm_r (by decide) (by decide), _, _, rfl, rfl, .inl ⟨_, rfl, _, _, rfl, rfl, (show (0 : Int) < 2147483399 by decide), ?_⟩⟩
    generalize ht : (o1 * o1 + o1 / 127 * 40692 + t * 69621) % 2147483399 = o2
    have p0 : 0 ≤ o2 ∧ o2 < 2147483399 := by rw [← ht]; constructor <;> omega
    exact ⟨_, rfl, _, rfl, _, _, rfl, rfl, cm_r (by omega) (by omega), _, _, rfl, rfl, ⟨by decide, by decide⟩, _, rfl, _, _, rfl, rfl, .inl ⟨_, rfl, _, _, rfl, rfl, (show (0 : Int) < 2147483563 by decide), _, _, rfl, rfl, ⟨by decide, by decide⟩, k _⟩⟩
def spHand : Sp := fun vs H Q _ => ∃ (a : Addr) (ns : List Int), vs = [.ref a] ∧ SqL K H a (vI ns) ∧ ns.length ≤ 1000 ∧ ∀ H' h c, Same H H' → Hnd H' h c → Q (.ref h) H'
abbrev nHand : List Str := ["_law_script", "_law_total", "_law_k", "_law_cell"]
theorem scHand : FnScope nHand ["_law_script"] (defScope sHand) := ⟨rfl, rfl, rfl, by decide +kernel, rfl, by decide +kernel, by decide +kernel⟩
theorem ok_hand {f : Addr} {fd : FuncData} (F : Fun K "_law_hand" "_law_hand" sHand f fd) (B : Blt mg) : FnOk P w K mg base CX0 1 f fd ["_law_script"] (spHand (K := K)) := by
  refine F.ok scHand (fun vs H Q E h => ?_) (fun cdv A outer s H vs Q E hr h => ?_)
  · obtain ⟨a, ns, rfl, _⟩ := h
    rfl
  · obtain ⟨a, ns, rfl, ha, hl, k⟩ := h
    refine ⟨_, pss_cons (ps_set (i := 1) scHand.nd rfl (Or.inl rfl) pe_int)
      (pss_cons (ps_for PassesOwn.never rfl (pi_enum rfl B.enumerate (pa_cons (pv 0) pa_nil)) (pg_tup rfl (pgs_cons (pg_name (i := 2) scHand.nd rfl (Or.inl rfl)) (pgs_cons (pg_name (i := 3) scHand.nd rfl (Or.inl rfl)) pgs_nil)))
        (pss_one (ps_set (i := 1) scHand.nd rfl (Or.inl rfl) (pe_op op_mod (pe_t call_int1 B.int PyProof.Rows.boot_int (pa_cons (pe_op op_add (pe_op op_mul (pv 1) pe_int) (pe_op op_mul (pe_t call_int1 B.int PyProof.Rows.boot_int (pa_cons (pv 3) pa_nil)) (pe_op op_add (pv 2) pe_int))) pa_nil)) pe_int))))
      (pss_one (ps_ret (pe_lst (pa_cons (pe_lc (own := [("_law_cell", 3)]) (g := gName 3) (tt := tYes) (te := tCB (fun xs H Q => ∃ i, xs = [.int i] ∧ Q (.int (if i < 0 then -i else i)) H) (tCons (tCB (fun xs H Q => (∃ i, xs = [.int i] ∧ Q (.int i) H) ∨ ∃ k, xs = [.bl k] ∧ Q (.int (if k then 1 else 0)) H) (tCons (tVar 3) tNil)) tNil)) rfl scHand.nd (pi_list (pv 0)) (blkOk_by (N := nHand) (sc := defScope sHand) (by decide +kernel)) (fun _ _ _ _ _ => pg_name (i := 3) scHand.nd rfl (Or.inl rfl)) (fun _ _ _ _ _ => pts_nil)
          (fun _ _ _ _ _ => pe_b call_abs B.abs PyProof.Rows.boot_abs (pa_cons (pe_t call_int1 B.int PyProof.Rows.boot_int (pa_cons (pv 3) pa_nil)) pa_nil))) (pa_cons pe_int (pa_cons pe_int (pa_cons (pv 1) pa_nil)))))))), ?_⟩
    refine ⟨_, rfl, a, vI ns, rfl, ha, for_it (walk_enum (xs := vI ns)) (fun i σ H' => (∃ t v2 v3, σ = [some (.ref a), some (.int t), v2, v3]) ∧ Same H H') ⟨⟨_, _, _, rfl⟩, Same.refl H⟩ (fun i σ H' _ q => sql_same q.2 ha) ?_ ?_⟩
    · rintro i x σ H1 H' hi ⟨⟨t, v2, v3, rfl⟩, s1⟩ ⟨T, y1, y2, rfl, hT, rfl, e1, e2⟩
      obtain ⟨z, hz, rfl⟩ := vI_get e2
      cases e1
      rw [vI_len] at hi
      have s2 := Same.new (o := .tup [.int (i : Nat), .int z]) s1 hT
      refine ⟨T, _, rfl, SqT.of upd_same, rfl, _, _, rfl, _, _, rfl, rfl, ?_⟩
      exact ⟨_, rfl, _, _, rfl, rfl, cm_r (by decide) (by decide), _, rfl, .inl ⟨_, rfl, _, rfl, _, _, rfl, rfl, _, _, rfl, rfl, cm_r (by omega) (by omega), _, _, rfl, rfl, .inl ⟨_, rfl, _, _, rfl, rfl, (show (0 : Int) < 2147483629 by decide), ⟨_, _, _, rfl⟩, s2⟩⟩⟩
    · rintro σ H' ⟨⟨t, v2, v3, rfl⟩, s1⟩
      have ha' := sql_same (K := K) s1 ha
      refine ⟨_, rfl, a, rfl, ⟨_, ha'⟩, fun D hD => lc_list (K := K) (a := a) (xs := vI ns) (fun i H1 => Same H' H1 ∧ ∃ cs, H1 D = some (.lst (vI cs)) ∧ cs.length = i) ⟨Same.upd_new hD, [], upd_same, rfl⟩ (fun i H1 _ q => sql_same (K := K) q.1 ha') ?_ ?_⟩
      · rintro i x H1 hi ⟨s2, cs, hDc, hcl⟩
        obtain ⟨z, hz, rfl⟩ := vI_get hi
        have hil : i < ns.length := (List.getElem?_eq_some_iff.mp hz).1
        refine ⟨rfl, yesT ?_⟩
        refine ⟨_, rfl, .inl ⟨_, rfl, _, rfl, _, hDc, by rw [vI_len, hcl]; exact size_lt (by omega), Same.put s2 hD, cs ++ [_], by rw [upd_same, ← vI_snoc], ?_⟩⟩
        rw [List.length_append, hcl]; rfl
      · rintro H1 ⟨s2, cs, hDc, hcl⟩
        refine ⟨_, rfl, by show 4 ≤ sizeLine; decide, fun h hh => ?_⟩
        have s3 := Same.new (o := .lst [.ref D, .int 0, .int 0, .int t]) (s1.trans s2) hh
        refine k _ h D s3 ⟨cs, 0, 0, t, upd_same, ?_, Int.le_refl 0⟩
        rw [upd_ne (ne_of_none hDc hh)]; exact hDc
/-! ### _law_draw -/
def spDraw : Sp := fun vs H Q _ => ∃ (h c : Addr) (m : Int), vs = [.ref h, .int m] ∧ Hnd H h c ∧ 0 < m ∧ m < 1073741824 ∧ ∀ v H', Kp h c H H' → 0 ≤ v → v < m → Q (.int v) H'
abbrev nDraw : List Str := ["_law_hand_here", "_law_many", "_law_cell", "_law_rest"]
theorem scDraw : FnScope nDraw ["_law_hand_here", "_law_many"] (defScope sDraw) := ⟨rfl, rfl, rfl, by decide +kernel, rfl, by decide +kernel, by decide +kernel⟩
theorem hnd_put {H1 : Hp} {h c : Addr} {i r t : Int} {cs : List Int} (hc : H1 c = some (.lst (vI cs))) (n : c ≠ h) (h0 : 0 ≤ i) : Hnd (upd H1 h (.lst [.ref c, .int i, .int r, .int t])) h c :=
  ⟨cs, i, r, t, upd_same, by rw [upd_ne n]; exact hc, h0⟩
theorem Kp.hand {H H1 : Hp} {h c : Addr} {i r t : Int} (a : Kp h c H H1) (h0 : 0 ≤ i) : Kp h c H (upd H1 h (.lst [.ref c, .int i, .int r, .int t])) := by
  obtain ⟨cs, _, _, _, _, h2, _⟩ := a.h1.ex
  exact ⟨a.h0, hnd_put h2 a.h0.nec h0, a.but.put⟩
theorem ok_draw {f : Addr} {fd : FuncData} (F : Fun K "_law_draw" "_law_draw" sDraw f fd) (B : Blt mg) (cM : Cal P w K mg base CX0 1 "_law_mix" ["_law_number", "_law_turn"] spMix) : FnOk P w K mg base CX0 2 f fd ["_law_hand_here", "_law_many"] spDraw := by
  refine F.ok scDraw (fun vs H Q E h => ?_) (fun cdv A outer s H vs Q E hr h => ?_)
  · obtain ⟨h, c, m, rfl, _⟩ := h
    rfl
  · obtain ⟨h, c, m, rfl, hh, m0, m1, k⟩ := h
    have nch := hh.nec
    refine ⟨_, pss_cons (ps_if (PW.pt (pw_and (pt_cmpR op_eq (pe_ix ix_list (pv 0) pe_int (fun _ _ => rfl)) pe_int (nomark _)) (pw_and1 (pt_cmpR op_lt (pe_ix ix_list (pv 0) pe_int (fun _ _ => rfl)) (pe_b call_len_seq B.len PySem.boot_len (pa_cons (pe_ix ix_list (pv 0) pe_int (fun _ _ => rfl)) pa_nil)) (nomark _)))))
        (pss_cons (ps_set (i := 2) scDraw.nd rfl (Or.inl rfl) (pe_ix ix_list (pe_ix ix_list (pv 0) pe_int (fun _ _ => rfl)) (pe_ix ix_list (pv 0) pe_int (fun _ _ => rfl)) (fun _ _ => rfl)))
        (pss_cons (ps_asg (pe_op op_add (pe_ix ix_list (pv 0) pe_int (fun _ _ => rfl)) pe_int) (pg_sub (pv 0) pe_int set_list))
        (pss_cons (ps_if (pt_cmpR op_lt (pv 2) (pe_op op_pow pe_int pe_int) (nomark _))
          (pss_one (ps_ret (pe_op op_mod (pe_t call_int1 B.int PyProof.Rows.boot_int (pa_cons (pe_cal cM hr pass0 (pa_cons (pe_op op_mod (pe_t call_int1 B.int PyProof.Rows.boot_int (pa_cons (pv 2) pa_nil)) pe_int) (pa_cons (pe_ix ix_list (pv 0) pe_int (fun _ _ => rfl)) pa_nil))) pa_nil)) (pv 1)))) pss_nil)
        (pss_one (ps_asg (pv 2) (pg_sub (pv 0) pe_int set_list)))))) pss_nil)
      (pss_cons (ps_if (pt_cmpR op_gt (pe_ix ix_list (pv 0) pe_int (fun _ _ => rfl)) pe_int (nomark _))
        (pss_cons (ps_set (i := 3) scDraw.nd rfl (Or.inl rfl) (pe_ix ix_list (pv 0) pe_int (fun _ _ => rfl)))
        (pss_cons (ps_asg (pe_op op_fdiv (pv 3) (pv 1)) (pg_sub (pv 0) pe_int set_list))
        (pss_one (ps_ret (pe_op op_mod (pe_t call_int1 B.int PyProof.Rows.boot_int (pa_cons (pv 3) pa_nil)) (pv 1)))))) pss_nil)
      (pss_cons (ps_asg (pe_op op_mod (pe_t call_int1 B.int PyProof.Rows.boot_int (pa_cons (pe_op op_add (pe_ix ix_list (pv 0) pe_int (fun _ _ => rfl)) pe_int) pa_nil)) pe_int) (pg_sub (pv 0) pe_int set_list))
      (pss_one (ps_ret (pe_op op_mod (pe_t call_int1 B.int PyProof.Rows.boot_int (pa_cons (pe_cal cM hr pass0 (pa_cons (pe_ix ix_list (pv 0) pe_int (fun _ _ => rfl)) (pa_cons (pe_ix ix_list (pv 0) pe_int (fun _ _ => rfl)) pa_nil))) pa_nil)) (pv 1)))))), ?_⟩
    refine seq_by (fun σ' H' => (∃ v2 v3, σ' = [some (.ref h), some (.int m), v2, v3]) ∧ Kp h c H H') ?_ ?_
    · rintro σ' H1 ⟨⟨v2, v3, rfl⟩, kp⟩
      obtain ⟨cs, i, r, t, h1, h2, h3⟩ := kp.h1.ex
      refine ⟨_, rfl, _, _, _, _, rfl, rfl, SqL.of h1, at_of (j := 2) rfl rfl, _, _, rfl, rfl, _, rfl, ?_⟩
      by_cases r0 : (0 : Int) < r
      · rw [decide_eq_true r0]
        refine iteT ⟨_, rfl, _, _, _, _, rfl, rfl, SqL.of h1, at_of (j := 2) rfl rfl, ?_⟩
        refine ⟨_, rfl, _, rfl, _, _, rfl, rfl, ⟨m0, m1⟩, _, rfl, h, _, _, 2, rfl, rfl, h1, rfl, ?_⟩
        refine ⟨_, rfl, .inl ⟨_, rfl, _, rfl, _, _, rfl, rfl, m0, k _ _ (kp.hand h3) (Int.emod_nonneg _ (by omega)) (Int.emod_lt_of_pos _ m0)⟩⟩
      · rw [decide_eq_false r0]
        refine iteF ⟨_, rfl, _, _, _, _, rfl, rfl, SqL.of h1, at_of (j := 3) rfl rfl, _, _, rfl, rfl, .inl ⟨_, rfl, _, _, rfl, rfl, (show (0 : Int) < 2147483629 by decide), ?_⟩⟩
        refine ⟨_, rfl, h, _, _, 3, rfl, rfl, h1, rfl, ?_⟩
        have kp2 : Kp h c H (upd H1 h (.lst [.ref c, .int i, .int r, .int ((t + 1) % 2147483629)])) := kp.hand h3
        refine ⟨_, rfl, _, _, _, _, rfl, rfl, SqL.of upd_same, at_of (j := 3) rfl rfl, _, rfl, _, _, _, _, rfl, rfl, SqL.of upd_same, at_of (j := 1) rfl rfl, _, _, rfl, fun v => ?_⟩
        exact .inl ⟨_, rfl, _, rfl, _, _, rfl, rfl, m0, k _ _ kp2 (Int.emod_nonneg _ (by omega)) (Int.emod_lt_of_pos _ m0)⟩
    · intro tail
      obtain ⟨cs, i, r, t, h1, h2, h3⟩ := hh.ex
      refine ⟨_, rfl, _, _, _, _, rfl, rfl, SqL.of h1, at_of (j := 2) rfl rfl, rfl, _, rfl, ?_⟩
      by_cases r0 : V.int r = V.int 0
      · rw [decide_eq_true r0]
        refine iteT ⟨_, rfl, _, _, _, _, rfl, rfl, SqL.of h1, at_of (j := 1) rfl rfl, _, rfl, _, _, _, _, rfl, rfl, SqL.of h1, at_of (j := 0) rfl rfl, _, _, rfl, .inl (SqL.of h2), _, _, rfl, rfl, _, rfl, ?_⟩
        rw [vI_len]
        by_cases il : i < (cs.length : Int)
        · rw [decide_eq_true il]
          refine iteT ⟨_, rfl, _, _, _, _, rfl, rfl, SqL.of h1, at_of (j := 0) rfl rfl, _, rfl, _, _, _, _, rfl, rfl, SqL.of h1, at_of (j := 1) rfl rfl, _, _, _, _, rfl, rfl, SqL.of h2, at_int h3 il, ?_⟩
          generalize hx : cs.getD i.toNat 0 = x
          refine ⟨_, rfl, _, _, _, _, rfl, rfl, SqL.of h1, at_of (j := 1) rfl rfl, _, _, rfl, rfl, _, rfl, h, _, _, 1, rfl, rfl, h1, rfl, ?_⟩
          have kp : Kp h c H (upd H h (.lst [.ref c, .int (i + 1), .int r, .int t])) := (Kp.refl hh).hand (by omega)
          refine ⟨_, rfl, _, _, rfl, rfl, ⟨by decide, by decide, by decide⟩, _, _, rfl, rfl, _, rfl, ?_⟩
          by_cases x0 : x < (10 : Int) ^ (18 : Int).toNat
          · rw [decide_eq_true x0]
            refine iteT ⟨_, rfl, .inl ⟨_, rfl, _, _, rfl, rfl, (show (0 : Int) < 2147483647 by decide), _, rfl, _, _, _, _, rfl, rfl, SqL.of upd_same, at_of (j := 1) rfl rfl, _, _, rfl, fun v => ?_⟩⟩
            exact .inl ⟨_, rfl, _, rfl, _, _, rfl, rfl, m0, k _ _ kp (Int.emod_nonneg _ (by omega)) (Int.emod_lt_of_pos _ m0)⟩
          · rw [decide_eq_false x0]
            refine iteF ⟨_, rfl, _, rfl, h, _, _, 2, rfl, rfl, upd_same, rfl, ?_⟩
            exact tail _ _ ⟨⟨_, _, rfl⟩, kp.hand (by omega)⟩
        · rw [decide_eq_false il]
          exact iteF (tail _ _ ⟨⟨_, _, rfl⟩, Kp.refl hh⟩)
      · rw [decide_eq_false r0]
        exact iteF (tail _ _ ⟨⟨_, _, rfl⟩, Kp.refl hh⟩)
end
end K7

namespace K7
theorem take_out : ∀ (L : List Nat) (k : Nat), k < L.length → (L.getD k 0 :: L.eraseIdx k).Perm L
  | [], k, h => absurd h (Nat.not_lt_zero _)
  | x :: r, 0, _ => by simp
  | x :: r, k + 1, h => by
    have hk : k < r.length := by simpa using h
    have ih := take_out r k hk
    have e1 : (x :: r).getD (k + 1) 0 = r.getD k 0 := by simp
    have e2 : (x :: r).eraseIdx (k + 1) = x :: r.eraseIdx k := rfl
    rw [e1, e2]
    exact (List.Perm.swap x _ _).trans (ih.cons x)
theorem getD_mem {L : List Nat} {k : Nat} (h : k < L.length) : L.getD k 0 ∈ L := by
  have : L.getD k 0 = L[k] := by simp [h]
  rw [this]; exact List.getElem_mem h
theorem erase_not {L : List Nat} {k : Nat} (h : k < L.length) (n : L.Nodup) : L.getD k 0 ∉ L.eraseIdx k :=
  ((List.nodup_cons.mp ((take_out L k h).nodup_iff.mpr n))).1
/-- backs as far as made: L is what is left -/
structure BkPart (n : Nat) (b L : List Nat) : Prop where
  len : b.length = n
  rg : ∀ i, i < n → b.getD i 0 < n
  inv : ∀ i, i < n → b.getD (b.getD i 0) 0 = i
  left : ∀ x ∈ L, x < n ∧ b.getD x 0 = x
  nd : L.Nodup
theorem BkPart.start (n : Nat) : BkPart n (List.range n) (List.range n) := by
  have e : ∀ i, i < n → (List.range n).getD i 0 = i := fun i h => by simp [h]
  refine ⟨List.length_range, fun i h => by rw [e i h]; exact h, fun i h => by rw [e i h, e i h], fun x h => ⟨List.mem_range.mp h, e x (List.mem_range.mp h)⟩, List.nodup_range⟩
theorem getD_set {b : List Nat} {i j v : Nat} (h : i < b.length) : (b.set i v).getD j 0 = if i = j then v else b.getD j 0 := by
  simp only [List.getD_eq_getElem?_getD, List.getElem?_set]
  by_cases e : i = j
  · subst e; simp [h]
  · simp [e]
theorem BkPart.turn {n : Nat} {b L : List Nat} (p : BkPart n b L) {i j : Nat} (hi : i < L.length) (hj : j < (L.eraseIdx i).length) :
    BkPart n ((b.set (L.getD i 0) ((L.eraseIdx i).getD j 0)).set ((L.eraseIdx i).getD j 0) (L.getD i 0)) ((L.eraseIdx i).eraseIdx j) := by
  have ha := p.left _ (getD_mem hi)
  have hb0 : (L.eraseIdx i).getD j 0 ∈ L := List.mem_of_mem_eraseIdx (getD_mem hj)
  have hb := p.left _ hb0
  have nab : L.getD i 0 ≠ (L.eraseIdx i).getD j 0 := fun e => erase_not hi p.nd (e ▸ getD_mem hj)
  have nd1 := p.nd.eraseIdx i
  have hnb := erase_not hj nd1
  have hna : L.getD i 0 ∉ (L.eraseIdx i).eraseIdx j := fun h => erase_not hi p.nd (List.mem_of_mem_eraseIdx h)
  generalize L.getD i 0 = a at *
  generalize (L.eraseIdx i).getD j 0 = c at *
  have g : ∀ x, ((b.set a c).set c a).getD x 0 = if c = x then a else if a = x then c else b.getD x 0 := fun x => by
    rw [getD_set (by rw [List.length_set, p.len]; exact hb.1), getD_set (by rw [p.len]; exact ha.1)]
  refine ⟨by rw [List.length_set, List.length_set, p.len], fun x hx => ?_, fun x hx => ?_, fun x hx => ?_, nd1.eraseIdx j⟩
  · rw [g]
    split
    · exact ha.1
    · split
      · exact hb.1
      · exact p.rg x hx
  · rw [g x]
    by_cases e1 : c = x
    · rw [if_pos e1, g a, if_neg (fun z => nab z.symm), if_pos rfl, e1]
    · rw [if_neg e1]
      by_cases e2 : a = x
      · rw [if_pos e2, g c, if_pos rfl, e2]
      · rw [if_neg e2, g]
        have h1 : c ≠ b.getD x 0 := fun z => by
          have := p.inv x hx
          rw [← z, hb.2] at this
          exact e1 this
        have h2 : a ≠ b.getD x 0 := fun z => by
          have := p.inv x hx
          rw [← z, ha.2] at this
          exact e2 this
        rw [if_neg h1, if_neg h2]
        exact p.inv x hx
  · have hxL : x ∈ L := List.mem_of_mem_eraseIdx (List.mem_of_mem_eraseIdx hx)
    have q := p.left x hxL
    refine ⟨q.1, ?_⟩
    have n1 : ¬ c = x := fun z => hnb (by rw [z]; exact hx)
    have n2 : ¬ a = x := fun z => hna (by rw [z]; exact hx)
    rw [g, if_neg n1, if_neg n2]
    exact q.2
theorem lab_arith {m base step : Int} (hm : 0 ≤ m ∧ m ≤ 9) (hb : 0 ≤ base ∧ base < 100000000) (hs : 1 ≤ step) (hs2 : step ≤ 900000000 / (if m > 1 then m else 1)) {k : Int} (h0 : 0 ≤ k) (h1 : k < m) : 0 ≤ base + k * step ∧ base + k * step ≤ 1000000000 ∧ base + k * step < base + (k + 1) * step := by
  have e : (k + 1) * step = k * step + step := by rw [Int.add_mul, Int.one_mul]
  have hk : k * step ≤ (m - 1) * step := Int.mul_le_mul_of_nonneg_right (by omega) (by omega)
  have hk0 : 0 ≤ k * step := Int.mul_nonneg h0 (by omega)
  have hc : m = 1 ∨ m = 2 ∨ m = 3 ∨ m = 4 ∨ m = 5 ∨ m = 6 ∨ m = 7 ∨ m = 8 ∨ m = 9 := by omega
  rw [e]
  rcases hc with rfl | rfl | rfl | rfl | rfl | rfl | rfl | rfl | rfl <;> (simp at hs2; omega)
open PySem PySem.Spec L2
theorem map_erase {α β : Type} (f : α → β) : ∀ (xs : List α) (j : Nat), (xs.eraseIdx j).map f = (xs.map f).eraseIdx j
  | [], j => by simp
  | x :: r, 0 => rfl
  | x :: r, j + 1 => by rw [List.eraseIdx_cons_succ, List.map_cons, List.map_cons, List.eraseIdx_cons_succ, map_erase f r j]
theorem vIN_erase (L : List Nat) (k : Nat) : (vI (iN L)).eraseIdx k = vI (iN (L.eraseIdx k)) := by rw [vI, iN, vI, iN, map_erase, map_erase]
theorem vIN_set (b : List Nat) (j v : Nat) : (vI (iN b)).set j (.int (v : Nat)) = vI (iN (b.set j v)) := by rw [vI, iN, vI, iN, List.map_set, List.map_set]
theorem vIN_len (b : List Nat) : (vI (iN b)).length = b.length := by rw [vI_len, iN_len]
theorem vIN_at {b : List Nat} {i : Nat} (h : i < b.length) : (vI (iN b))[i]? = some (.int ((b.getD i 0 : Nat) : Int)) := by
  rw [vI_at (by rw [iN_len]; exact h), iN_getD h]
theorem ix_of {n j : Nat} {k : Int} (e : k = (j : Int)) (h : j < n) : ixN n k = some j := by
  subst e
  unfold ixN
  rw [if_pos (by omega), if_pos (by omega)]; simp
theorem BkPart.ok {n : Nat} {b L : List Nat} (p : BkPart n b L) (h2 : 2 ≤ n) (h4 : n ≤ 4) : BkOk (iN b) := by
  have hl : (iN b).length = n := by rw [iN_len, p.len]
  refine ⟨by omega, by omega, fun i hi => ?_, fun i hi => ?_⟩
  · rw [hl] at hi
    rw [iN_getD (by rw [p.len]; exact hi), hl]
    have := p.rg i hi
    omega
  · rw [hl] at hi
    have h1 := p.rg i hi
    have e1 : (iN b).getD i 0 = ((b.getD i 0 : Nat) : Int) := iN_getD (by rw [p.len]; exact hi)
    rw [e1, Int.toNat_natCast, iN_getD (by rw [p.len]; exact h1), p.inv i hi]
section
variable {P : Program} {w : World} {K : PySem.W.Frag} {mg : Str → Option Value} {base : Heap}
/-! ### _law_backs -/
def spBacks : Sp := fun vs H Q _ => ∃ (h c : Addr) (m : Int), vs = [.ref h, .int m] ∧ Hnd H h c ∧ 2 ≤ m ∧ m ≤ 4 ∧ ∀ (H' : Hp) (B : Addr) (bk : List Int), Kp h c H H' → H B = none → lI H' B bk → BkOk bk → (bk.length : Int) = m → Q (.ref B) H'
abbrev nBacks : List Str := ["_law_hand_here", "_law_many", "_law_backs_here", "_law_left", "_law_k", "_law_one", "_law_other"]
theorem scBacks : FnScope nBacks ["_law_hand_here", "_law_many"] (defScope sBacks) := ⟨rfl, rfl, rfl, by decide +kernel, rfl, by decide +kernel, by decide +kernel⟩
theorem ok_backs {f : Addr} {fd : FuncData} (F : Fun K "_law_backs" "_law_backs" sBacks f fd) (B : Blt mg) (cD : Cal P w K mg base CX0 2 "_law_draw" ["_law_hand_here", "_law_many"] spDraw) : FnOk P w K mg base CX0 3 f fd ["_law_hand_here", "_law_many"] spBacks := by
  refine F.ok scBacks (fun vs H Q E h => ?_) (fun cdv A outer s H vs Q E hr h => ?_)
  · obtain ⟨h, c, m, rfl, _⟩ := h
    rfl
  · obtain ⟨h, c, m, rfl, hh, m2, m4, k⟩ := h
    obtain ⟨n, rfl⟩ : ∃ n : Nat, m = n := ⟨m.toNat, by omega⟩
    refine ⟨_, pss_cons (ps_set (i := 2) scBacks.nd rfl (Or.inl rfl) (pe_listRg rfl rfl B.list (prg_1 rfl B.range (pv 1))))
      (pss_cons (ps_set (i := 3) scBacks.nd rfl (Or.inl rfl) (pe_listRg rfl rfl B.list (prg_1 rfl B.range (pv 1))))
      (pss_cons (ps_for PassesOwn.never rfl (pi_range1 rfl B.range (pa_cons (pe_op op_fdiv (pv 1) pe_int) pa_nil)) (pg_name (i := 4) scBacks.nd rfl (Or.inl rfl))
        (pss_one (ps_if (pt_cmpR op_eq (pe_cal cD hr pass0 (pa_cons (pv 0) (pa_cons pe_int pa_nil))) pe_int (nomark _))
          (pss_cons (ps_set (i := 5) scBacks.nd rfl (Or.inl rfl) (pe_bm PySem.F.plainAttrs_list PySem.F.slot_list_pop PySem.F.type_list_pop mt_popAt (pv 3) (pa_cons (pe_cal cD hr pass0 (pa_cons (pv 0) (pa_cons (pe_b call_len_seq B.len PySem.boot_len (pa_cons (pv 3) pa_nil)) pa_nil))) pa_nil)))
          (pss_cons (ps_set (i := 6) scBacks.nd rfl (Or.inl rfl) (pe_bm PySem.F.plainAttrs_list PySem.F.slot_list_pop PySem.F.type_list_pop mt_popAt (pv 3) (pa_cons (pe_cal cD hr pass0 (pa_cons (pv 0) (pa_cons (pe_b call_len_seq B.len PySem.boot_len (pa_cons (pv 3) pa_nil)) pa_nil))) pa_nil)))
          (pss_cons (ps_asg (pv 6) (pg_sub (pv 2) (pv 5) set_list))
          (pss_one (ps_asg (pv 5) (pg_sub (pv 2) (pv 6) set_list)))))) pss_nil)))
      (pss_one (ps_ret (pv 2))))), ?_⟩
    refine ⟨_, rfl, _, rfl, .of_le (by decide) (by omega) (by decide) (by omega), fun D hD0 => ?_⟩
    have hD : H D = none := hD0
    rw [rgV_range]
    have k1 := (Kp.refl hh).new (o := .lst (vI (iN (List.range n)))) hD
    have D1 : upd H D (.lst (vI (iN (List.range n)))) D = some (.lst (vI (iN (List.range n)))) := upd_same
    generalize upd H D (.lst (vI (iN (List.range n)))) = H1 at k1 D1
    refine ⟨_, rfl, _, rfl, .of_le (by decide) (by omega) (by decide) (by omega), fun L hL => ?_⟩
    rw [rgV_range]
    have nDL : D ≠ L := ne_of_none D1 hL
    have hL0 := k1.free hL
    have k2 := k1.new (o := .lst (vI (iN (List.range n)))) hL
    refine ⟨_, rfl, _, _, rfl, rfl, ⟨by decide, by decide⟩, _, rfl, by omega, by omega, for_range (n := ((n : Int) / 2).toNat) (fun i σ H' => ∃ v4 v5 v6 b l, σ = [some (.ref h), some (.int n), some (.ref D), some (.ref L), v4, v5, v6] ∧ Kp h c H H' ∧ H' D = some (.lst (vI (iN b))) ∧ H' L = some (.lst (vI (iN l))) ∧ BkPart n b l ∧ n ≤ l.length + 2 * i ∧ l.length ≤ 4)
      ⟨none, none, none, List.range n, List.range n, rfl, k2, by rw [upd_ne nDL]; exact D1, upd_same, BkPart.start n, by rw [List.length_range]; omega, by rw [List.length_range]; omega⟩ ?_ ?_⟩
    · rintro i σ H2 hi ⟨v4, v5, v6, b, l, rfl, kp, hb, hl, bp, hln, hl4⟩
      refine ⟨_, rfl, h, c, 3, rfl, kp.h1, by decide, by decide, fun v H3 kp3 v0 v1 => ?_⟩
      have kq := kp.trans kp3
      have hb3 := kp3.ref (nh_int _) hb
      have hl3 := kp3.ref (nh_int _) hl
      refine ⟨rfl, _, rfl, ?_⟩
      by_cases e : V.int v = V.int 0
      · rw [decide_eq_true e]
        have hl2 : 2 ≤ l.length := by omega
        refine iteT ⟨_, rfl, .inl ⟨rfl, _, SqL.of hl3⟩, _, rfl, _, rfl, _, _, rfl, .inl (SqL.of hl3), h, c, _, rfl, kq.h1, by rw [vIN_len]; omega, by rw [vIN_len]; omega, fun x1 H4 kp4 a0 a1 => ?_⟩
        rw [vIN_len] at a1
        have kq4 := kq.trans kp4
        have hb4 := kp4.ref (nh_int _) hb3
        have hl4' := kp4.ref (nh_int _) hl3
        have i1 : x1.toNat < l.length := by omega
        refine ⟨L, _, x1, x1.toNat, .int ((l.getD x1.toNat 0 : Nat) : Int), rfl, rfl, hl4', by omega, by omega, by rw [vIN_len]; exact PySem.StrLaws.seqIndex_nonneg a0 a1, vIN_at i1, ?_⟩
        rw [vIN_erase]
        have kq5 := kq4.put (o := .lst (vI (iN (l.eraseIdx x1.toNat)))) hL0
        have hb5 : upd H4 L (.lst (vI (iN (l.eraseIdx x1.toNat)))) D = some (.lst (vI (iN b))) := by rw [upd_ne nDL]; exact hb4
        have hl5 : upd H4 L (.lst (vI (iN (l.eraseIdx x1.toNat)))) L = some (.lst (vI (iN (l.eraseIdx x1.toNat)))) := upd_same
        generalize upd H4 L (.lst (vI (iN (l.eraseIdx x1.toNat)))) = H5 at kq5 hb5 hl5
        have le : (l.eraseIdx x1.toNat).length = l.length - 1 := by rw [List.length_eraseIdx, if_pos i1]
        refine ⟨_, rfl, .inl ⟨rfl, _, SqL.of hl5⟩, _, rfl, _, rfl, _, _, rfl, .inl (SqL.of hl5), h, c, _, rfl, kq5.h1, by rw [vIN_len]; omega, by rw [vIN_len]; omega, fun x2 H6 kp6 c0 c1 => ?_⟩
        rw [vIN_len] at c1
        have kq6 := kq5.trans kp6
        have hb6 := kp6.ref (nh_int _) hb5
        have hl6 := kp6.ref (nh_int _) hl5
        have i2 : x2.toNat < (l.eraseIdx x1.toNat).length := by omega
        refine ⟨L, _, x2, x2.toNat, .int (((l.eraseIdx x1.toNat).getD x2.toNat 0 : Nat) : Int), rfl, rfl, hl6, by omega, by omega, by rw [vIN_len]; exact PySem.StrLaws.seqIndex_nonneg c0 c1, vIN_at i2, ?_⟩
        rw [vIN_erase]
        have turn := bp.turn i1 i2
        have ra := (bp.left _ (getD_mem i1)).1
        have rb := (bp.left _ (List.mem_of_mem_eraseIdx (getD_mem i2))).1
        have le2 : ((l.eraseIdx x1.toNat).eraseIdx x2.toNat).length = l.length - 2 := by rw [List.length_eraseIdx, if_pos i2, le]; omega
        generalize l.getD x1.toNat 0 = a at turn ra
        generalize (l.eraseIdx x1.toNat).getD x2.toNat 0 = d at turn rb
        have kq7 := kq6.put (o := .lst (vI (iN ((l.eraseIdx x1.toNat).eraseIdx x2.toNat)))) hL0
        have hb7 : upd H6 L (.lst (vI (iN ((l.eraseIdx x1.toNat).eraseIdx x2.toNat)))) D = some (.lst (vI (iN b))) := by rw [upd_ne nDL]; exact hb6
        have hl7 : upd H6 L (.lst (vI (iN ((l.eraseIdx x1.toNat).eraseIdx x2.toNat)))) L = some (.lst (vI (iN ((l.eraseIdx x1.toNat).eraseIdx x2.toNat)))) := upd_same
        generalize upd H6 L (.lst (vI (iN ((l.eraseIdx x1.toNat).eraseIdx x2.toNat)))) = H7 at kq7 hb7 hl7
        have bl := bp.len
        refine ⟨_, rfl, _, rfl, _, rfl, D, _, _, a, rfl, rfl, hb7, ix_of rfl (by rw [vIN_len]; omega), ?_⟩
        rw [vIN_set]
        refine ⟨_, rfl, _, rfl, _, rfl, D, _, _, d, rfl, rfl, upd_same, ix_of rfl (by rw [vIN_len, List.length_set]; omega), ?_⟩
        rw [vIN_set]
        exact ⟨_, _, _, _, _, rfl, (kq7.put hD).put hD, upd_same, by rw [upd_ne nDL.symm, upd_ne nDL.symm]; exact hl7, turn, by omega, by omega⟩
      · rw [decide_eq_false e]
        exact iteF ⟨_, _, _, b, l, rfl, kq, hb3, hl3, bp, by omega, hl4⟩
    · rintro σ H2 ⟨v4, v5, v6, b, l, rfl, kp, hb, hl, bp, hln, hl4⟩
      exact ⟨_, rfl, k _ D (iN b) kp hD hb (bp.ok (by omega) (by omega)) (by rw [iN_len, bp.len])⟩
end
end K7

namespace K7
open PySem PySem.Spec L2
section
variable {P : Program} {w : World} {K : PySem.W.Frag} {mg : Str → Option Value} {base : Heap}
/-! ### _law_labels -/
def spLabels : Sp := fun vs H Q _ => ∃ (h c : Addr) (m : Int), vs = [.ref h, .int m] ∧ Hnd H h c ∧ 0 ≤ m ∧ m ≤ 9 ∧ ∀ (H' : Hp) (B : Addr) (g : List Int), Kp h c H H' → H B = none → lI H' B g → LabOk g → (g.length : Int) = m → Q (.ref B) H'
abbrev nLabels : List Str := ["_law_hand_here", "_law_many", "_law_base", "_law_step", "_law_k"]
theorem scLabels : FnScope nLabels ["_law_hand_here", "_law_many"] (defScope sLabels) := ⟨rfl, rfl, rfl, by decide +kernel, rfl, by decide +kernel, by decide +kernel⟩
abbrev labs (b st : Int) (n : Nat) : List Int := (List.range n).map fun k : Nat => b + (k : Int) * st
theorem lab_ok {n : Nat} {b st : Int} (hm : n ≤ 9) (hb : 0 ≤ b ∧ b < 100000000) (hs : 1 ≤ st) (hs2 : st ≤ 900000000 / (if (n : Int) > 1 then (n : Int) else 1)) : LabOk (labs b st n) := by
  have hl : (labs b st n).length = n := by rw [List.length_map, List.length_range]
  have e : ∀ i, i < n → (labs b st n).getD i 0 = b + (i : Int) * st := fun i h => by simp [labs, h]
  refine ⟨fun i hi => ?_, fun i hi => ?_⟩
  · rw [hl] at hi
    have q := lab_arith (m := (n : Int)) ⟨by omega, by omega⟩ hb hs hs2 (k := (i : Int)) (by omega) (by omega)
    rw [e i hi]
    exact ⟨q.1, q.2.1⟩
  · rw [hl] at hi
    have q := lab_arith (m := (n : Int)) ⟨by omega, by omega⟩ hb hs hs2 (k := (i : Int)) (by omega) (by omega)
    rw [e i (by omega), e (i + 1) hi]
    have : ((i + 1 : Nat) : Int) = (i : Int) + 1 := by omega
    rw [this]
    exact q.2.2
theorem ok_labels {f : Addr} {fd : FuncData} (F : Fun K "_law_labels" "_law_labels" sLabels f fd) (B : Blt mg) (cD : Cal P w K mg base CX0 2 "_law_draw" ["_law_hand_here", "_law_many"] spDraw) : FnOk P w K mg base CX0 3 f fd ["_law_hand_here", "_law_many"] spLabels := by
  refine F.ok scLabels (fun vs H Q E h => ?_) (fun cdv A outer s H vs Q E hr h => ?_)
  · obtain ⟨h, c, m, rfl, _⟩ := h
    rfl
  · obtain ⟨h, c, m, rfl, hh, m0, m9, k⟩ := h
    obtain ⟨n, rfl⟩ : ∃ n : Nat, m = n := ⟨m.toNat, by omega⟩
    refine ⟨_, pss_cons (ps_set (i := 2) scLabels.nd rfl (Or.inr rfl) (pe_cal cD hr pass0 (pa_cons (pv 0) (pa_cons pe_int pa_nil))))
      (pss_cons (ps_set (i := 3) scLabels.nd rfl (Or.inr rfl) pe_int)
      (pss_cons (ps_if (pt_cmpR op_eq (pe_cal cD hr pass0 (pa_cons (pv 0) (pa_cons pe_int pa_nil))) pe_int (nomark _))
        (pss_cons (ps_set (i := 2) scLabels.nd rfl (Or.inr rfl) (pe_cal cD hr pass0 (pa_cons (pv 0) (pa_cons (pe_op op_pow pe_int pe_int) pa_nil))))
        (pss_one (ps_set (i := 3) scLabels.nd rfl (Or.inr rfl) (pe_op op_add pe_int (pe_cal cD hr pass0 (pa_cons (pv 0) (pa_cons (pe_op op_fdiv (pe_op op_mul pe_int (pe_op op_pow pe_int pe_int)) (pe_b (call_max2 rfl) B.max PyProof.Rows.boot_max (pa_cons pe_int (pa_cons (pv 1) pa_nil)))) pa_nil))))))) pss_nil)
      (pss_one (ps_ret (pe_lc (own := [("_law_k", 4)]) (g := gName 4) (tt := tYes) (te := tOp (rI0 fun i j => .int (i + j)) (tVar 2) (tOp (rI CMul fun i j => .int (i * j)) (tVar 4) (tVar 3))) rfl scLabels.nd (pi_range1 rfl B.range (pa_cons (pv 1) pa_nil)) (blkOk_by (N := nLabels) (sc := defScope sLabels) (by decide +kernel)) (fun _ _ _ _ _ => pg_name (i := 4) scLabels.nd rfl (Or.inl rfl)) (fun _ _ _ _ _ => pts_nil)
        (fun _ _ _ _ _ => pe_op op_add (pv 2) (pe_op op_mul (pv 4) (pv 3)))))))), ?_⟩
    refine ⟨_, rfl, h, c, 3, rfl, hh, by decide, by decide, fun v1 H1 kp1 a0 a1 => ?_⟩
    refine ⟨_, rfl, h, c, 2, rfl, kp1.h1, by decide, by decide, fun v2 H2 kp2' b0 b1 => ?_⟩
    have kp2 := kp1.trans kp2'
    have fin : ∀ (b st : Int) (H3 : Hp) (v4 : Option V), Kp h c H H3 → (0 ≤ b ∧ b < 100000000) → 1 ≤ st → st ≤ 900000000 / (if (n : Int) > 1 then (n : Int) else 1) →
        tRet (tLc (iRng1 (tCons (tVar 1) tNil)) (gName 4) tYes (tOp (rI0 fun i j => .int (i + j)) (tVar 2) (tOp (rI CMul fun i j => .int (i * j)) (tVar 4) (tVar 3))) [4]) { nx := fun _ H' => Q .non H', rt := Q } [some (.ref h), some (.int n), some (.int b), some (.int st), v4] H3 := by
      intro b st H3 v4 kp hb hs hs2
      refine ⟨_, rfl, _, rfl, by omega, by omega, fun D hD => ?_⟩
      have hD0 := kp.free hD
      have hst : st < 2 ^ 64 := by
        have hq : (900000000 : Int) / (if (n : Int) > 1 then (n : Int) else 1) ≤ 900000000 := Int.ediv_le_self _ (by decide)
        omega
      refine lc_range (n := ((n : Nat) : Int).toNat) (fun i H' => Kp h c H H' ∧ H' D = some (.lst (vI (labs b st i)))) ⟨kp.new hD, upd_same⟩ ?_ ?_
      · rintro i H' hi ⟨kp4, hD4⟩
        refine ⟨rfl, yesT ?_⟩
        refine ⟨_, rfl, _, rfl, _, rfl, _, _, rfl, rfl, .inr ⟨by omega, hst⟩, _, _, rfl, rfl, _, hD4, by rw [vI_len, List.length_map, List.length_range]; exact size_lt (by omega), kp4.put hD0, ?_⟩
        rw [upd_same, vI_snoc]
        have e : labs b st (i + 1) = labs b st i ++ [b + (i : Int) * st] := by
          unfold labs
          rw [List.range_succ, List.map_append]; rfl
        have e2 : (0 : Int) + (i : Int) = (i : Int) := by omega
        rw [e, e2]
      · rintro H' ⟨kp4, hD4⟩
        have e : ((n : Nat) : Int).toNat = n := by omega
        rw [e] at hD4
        exact k _ D _ kp4 hD0 hD4 (lab_ok (by omega) hb hs hs2) (by rw [List.length_map, List.length_range])
    have hq1 : (1 : Int) ≤ 900000000 / (if (n : Int) > 1 then (n : Int) else 1) ∧ 0 < (if (n : Int) > 1 then (n : Int) else 1) ∧ (if (n : Int) > 1 then (n : Int) else 1) ≤ 9 := by
      have hc : n = 0 ∨ n = 1 ∨ n = 2 ∨ n = 3 ∨ n = 4 ∨ n = 5 ∨ n = 6 ∨ n = 7 ∨ n = 8 ∨ n = 9 := by omega
      rcases hc with rfl | rfl | rfl | rfl | rfl | rfl | rfl | rfl | rfl | rfl <;> decide
    refine ⟨rfl, _, rfl, ?_⟩
    by_cases e : V.int v2 = V.int 0
    · rw [decide_eq_true e]
      refine iteT ⟨_, rfl, _, _, rfl, rfl, ⟨by decide, by decide, by decide⟩, h, c, _, rfl, kp2.h1, by decide, by decide, fun v3 H3 kp3' c0 c1 => ?_⟩
      have kp3 := kp2.trans kp3'
      have hmx : (if (n : Int) > 1 then (n : Int) else 1) < 1073741824 := by have := hq1.2.2; omega
      have e9 : (9 : Int) * 10 ^ (8 : Int).toNat = 900000000 := by decide
      refine ⟨_, rfl, _, _, rfl, rfl, ⟨by decide, by decide, by decide⟩, _, _, rfl, rfl, .inl ⟨by decide, by decide⟩, _, rfl, _, _, rfl, _, _, rfl, rfl, ⟨hq1.2.1, hmx⟩, h, c, _, rfl, kp3.h1, ?_, ?_, fun v4 H4 kp4' d0 d1 => ?_⟩
      · rw [e9]; exact hq1.1
      · rw [e9]
        have hq : (900000000 : Int) / (if (n : Int) > 1 then (n : Int) else 1) ≤ 900000000 := Int.ediv_le_self _ (by decide)
        omega
      · rw [e9] at d1
        refine ⟨_, _, rfl, rfl, ?_⟩
        exact fin _ _ _ _ (kp3.trans kp4') ⟨c0, c1⟩ (by omega) (by omega)
    · rw [decide_eq_false e]
      exact iteF (fin _ _ _ _ kp2 ⟨a0, by omega⟩ (by decide) hq1.1)
end
end K7

namespace K7
open PySem PySem.Spec L2
/-! ### tables -/
def TbA (H : Hp) (T : Addr) (n : Nat) (M : Mx) (rs : List Addr) : Prop := H T = some (.lst (vR rs)) ∧ Rws lI H rs (tblM M n)
theorem TbA.same {H H' : Hp} {T : Addr} {n : Nat} {M : Mx} {rs : List Addr} (h : TbA H T n M rs) (s : Same H H') : TbA H' T n M rs := ⟨s _ _ h.1, h.2.same (lI_same s)⟩
theorem Kp.tbA {h c : Addr} {H H' : Hp} (a : Kp h c H H') {T : Addr} {n : Nat} {M : Mx} {rs : List Addr} (t : TbA H T n M rs) : TbA H' T n M rs := ⟨a.lR t.1, a.rwsL t.2⟩
theorem tblM_len (M : Mx) (n : Nat) : (tblM M n).length = n := by unfold tblM; rw [List.length_map, List.length_range]
theorem tblM_at {M : Mx} {n i : Nat} (h : i < n) : (tblM M n)[i]? = some ((List.range n).map (M i)) := by unfold tblM; simp [h]
theorem TbA.len {H : Hp} {T : Addr} {n : Nat} {M : Mx} {rs : List Addr} (h : TbA H T n M rs) : rs.length = n := by rw [h.2.len, tblM_len]
theorem TbA.row {H : Hp} {T : Addr} {n i : Nat} {M : Mx} {rs : List Addr} (h : TbA H T n M rs) (hi : i < n) : ∃ b, rs[i]? = some b ∧ lI H b ((List.range n).map (M i)) := by
  obtain ⟨b, h1, h2⟩ := h.2.get (i := i) (by rw [tblM_len]; exact hi)
  rw [getD_of (tblM_at hi)] at h2
  exact ⟨b, h1, h2⟩
theorem rg_at {f : Nat → Int} {n j : Nat} (h : j < n) : (vI ((List.range n).map f))[j]? = some (.int (f j)) := by simp [vI, h]
theorem Rws.updL {H : Hp} {rs : List Addr} {R : List (List Int)} {D : Addr} {o : HO} (h : Rws lI H rs R) (n : ∀ b ∈ rs, b ≠ D) : Rws lI (upd H D o) rs R := h.imp fun b r hb q => by
  show upd H D o b = _
  rw [upd_ne (n b hb)]
  exact q
theorem Rws.some {H : Hp} {rs : List Addr} {R : List (List Int)} (h : Rws lI H rs R) {b : Addr} (hb : b ∈ rs) : H b ≠ none := by
  obtain ⟨i, hi, rfl⟩ := List.getElem_of_mem hb
  have hi2 : i < R.length := by rw [← h.len]; exact hi
  have q : lI H rs[i] R[i] := h.at_ i rs[i] R[i] (by simp [hi]) (by simp [hi2])
  intro z
  rw [show H rs[i] = _ from q] at z
  cases z
theorem map_places {α : Type} {o : List Nat} {n : Nat} (h : o.length = n) (f : Nat → α) : o.map f = (List.range n).map fun k => f (o.getD k 0) := by
  subst h
  apply List.ext_getElem
  · simp
  · intro i h1 h2
    have hi : i < o.length := by simpa using h1
    simp [hi]
theorem tbl_places {M : Mx} {o : List Nat} {n : Nat} (h : o.length = n) : (o.map fun a => o.map (M a)) = tblM (fun a b => M (o.getD a 0) (o.getD b 0)) n := by
  unfold tblM
  rw [map_places h]
  refine List.map_congr_left fun k _ => ?_
  exact map_places h _
section
variable {P : Program} {w : World} {K : PySem.W.Frag} {mg : Str → Option Value} {base : Heap}
/-! ### _law_part -/
def spPart : Sp := fun vs H Q _ => ∃ (T pl : Addr) (n : Nat) (M : Mx) (rs : List Addr) (o : List Nat), vs = [.ref T, .ref pl] ∧ TbA H T n M rs ∧ lI H pl (iN o) ∧ Ord n n o ∧ n ≤ 9 ∧
  ∀ (H' : Hp) (t : Addr) (rs' : List Addr), Same H H' → H t = none → TbA H' t n (fun a b => M (o.getD a 0) (o.getD b 0)) rs' → rs'.Nodup → (∀ b ∈ rs', H b = none ∧ b ≠ t) → Q (.ref t) H'
abbrev nPart : List Str := ["_law_table", "_law_places", "_law_i", "_law_j"]
theorem scPart : FnScope nPart ["_law_table", "_law_places"] (defScope sPart) := ⟨rfl, rfl, rfl, by decide +kernel, rfl, by decide +kernel, by decide +kernel⟩
abbrev scPartO : Scope := { kind := .function, names := [(".0", .local), ("_law_i", .cell), ("_law_places", .cell), ("_law_table", .cell)], isGenerator := false, isCoroutine := false }
theorem ok_part {f : Addr} {fd : FuncData} (F : Fun K "_law_part" "_law_part" sPart f fd) : FnOk P w K mg base CX0 1 f fd ["_law_table", "_law_places"] spPart := by
  refine F.ok scPart (fun vs H Q E h => ?_) (fun cdv A outer s H vs Q E hr h => ?_)
  · obtain ⟨T, pl, n, M, rs, o, rfl, _⟩ := h
    rfl
  · obtain ⟨T, pl, n, M, rs, o, rfl, hT, hpl, ho, n9, k⟩ := h
    refine ⟨_, pss_one (ps_ret (pe_lc (own := [("_law_i", 2)]) (g := gName 2) (tt := tYes) (te := tLc (iList K (tVar 1)) (gName 3) tYes (tOp (rIxL K) (tOp (rIxL K) (tVar 0) (tVar 2)) (tVar 3)) [3]) rfl scPart.nd (pi_list (pv 1)) (blkOk_by (N := nPart) (sc := defScope sPart) (by decide +kernel)) (fun _ _ _ _ _ => pg_name (i := 2) scPart.nd rfl (Or.inr rfl)) (fun _ _ _ _ _ => pts_nil)
      (fun _ _ _ _ _ => pe_lc (own := [("_law_j", 3)]) (g := gName 3) (tt := tYes) (te := tOp (rIxL K) (tOp (rIxL K) (tVar 0) (tVar 2)) (tVar 3)) rfl scPart.nd (pi_list (pv 1)) (blkOk_by (N := nPart) (sc := scPartO) (by decide +kernel)) (fun _ _ _ _ _ => pg_name (i := 3) scPart.nd rfl (Or.inl rfl)) (fun _ _ _ _ _ => pts_nil)
        (fun _ _ _ _ _ => pe_ix (r := rIxL K) ix_list (pe_ix (r := rIxL K) ix_list (pv 0) (pv 2) (fun _ _ => rfl)) (pv 3) (fun _ _ => rfl))))), ?_⟩
    have hol : o.length = n := ho.len
    refine ⟨_, rfl, pl, rfl, ⟨_, SqL.of hpl⟩, fun D hD => lc_list (K := K) (a := pl) (xs := vI (iN o)) (fun i H1 => Same H H1 ∧ ∃ rs', H1 D = some (.lst (vR rs')) ∧ Rws lI H1 rs' ((o.take i).map fun a => o.map (M a)) ∧ rs'.Nodup ∧ ∀ b ∈ rs', H b = none ∧ b ≠ D)
      ⟨Same.upd_new hD, [], upd_same, Rws.nil, List.nodup_nil, fun b hb => by cases hb⟩ (fun i H1 _ q => SqL.of (q.1 _ _ hpl)) ?_ ?_⟩
    · rintro i x H1 hi ⟨s1, rs', hDr, hrs, hnd, hfr⟩
      obtain ⟨z, hz, rfl⟩ := vI_get hi
      rw [List.getElem?_map] at hz
      obtain ⟨a, ha, rfl⟩ := Option.map_eq_some_iff.mp hz
      have hil : i < o.length := (List.getElem?_eq_some_iff.mp ha).1
      have han : a < n := ho.lt a (List.mem_of_getElem? ha)
      obtain ⟨ra, hra, hrow⟩ := (hT.same s1).row han
      refine ⟨rfl, yesT ?_⟩
      refine ⟨_, rfl, pl, rfl, ⟨_, SqL.of (s1 _ _ hpl)⟩, fun D2 hD2 => lc_list (K := K) (a := pl) (xs := vI (iN o)) (fun j H2 => Same H1 H2 ∧ H2 D2 = some (.lst (vI ((o.take j).map (M a))))) ⟨Same.upd_new hD2, upd_same⟩ (fun j H2 _ q => SqL.of (q.1 _ _ (s1 _ _ hpl))) ?_ ?_⟩
      · rintro j y H2 hj ⟨s2, hD2j⟩
        obtain ⟨z2, hz2, rfl⟩ := vI_get hj
        rw [List.getElem?_map] at hz2
        obtain ⟨b, hb, rfl⟩ := Option.map_eq_some_iff.mp hz2
        have hjl : j < o.length := (List.getElem?_eq_some_iff.mp hb).1
        have hbn : b < n := ho.lt b (List.mem_of_getElem? hb)
        refine ⟨rfl, yesT ?_⟩
        refine ⟨_, rfl, _, rfl, _, _, _, _, rfl, rfl, SqL.of (s2 _ _ (hT.same s1).1), at_of (j := a) rfl (vR_at hra), _, rfl, _, _, _, _, rfl, rfl, SqL.of (s2 _ _ hrow), at_of (j := b) rfl (rg_at hbn), _, hD2j, by rw [vI_len, List.length_map, List.length_take]; exact size_lt (by omega), Same.put s2 hD2, ?_⟩
        rw [upd_same, vI_snoc, take_snoc hb, List.map_append]
        rfl
      · rintro H2 ⟨s2, hD2j⟩
        rw [vI_len, iN_len, List.take_length] at hD2j
        have hDr2 := s2 _ _ hDr
        have n2 : D2 ≠ D := fun e => by rw [e, hDr] at hD2; cases hD2
        have nin : D2 ∉ rs' := fun hm => hrs.some hm hD2
        refine ⟨_, hDr2, by rw [vR_len, hrs.len, List.length_map, List.length_take]; exact size_lt (by omega), Same.put (s1.trans s2) hD, rs' ++ [D2], by rw [upd_same, ← vR_snoc], ?_, ?_, ?_⟩
        · rw [take_snoc ha, List.map_append]
          refine ((hrs.same (lI_same s2)).updL fun b hb => (hfr b hb).2).snoc ?_
          show upd H2 D _ D2 = _
          rw [upd_ne n2]; exact hD2j
        · rw [List.nodup_append]
          exact ⟨hnd, (by simp), fun x hx y hy => by rw [List.mem_singleton] at hy; subst hy; exact fun e => nin (e ▸ hx)⟩
        · intro b hb
          rcases List.mem_append.mp hb with hb | hb
          · exact hfr b hb
          · rw [List.mem_singleton] at hb; subst hb
            exact ⟨s1.free hD2, n2⟩
    · rintro H1 ⟨s1, rs', hDr, hrs, hnd, hfr⟩
      rw [vI_len, iN_len, List.take_length, tbl_places hol] at hrs
      exact k H1 D rs' s1 hD ⟨hDr, hrs⟩ hnd hfr
/-! ### _law_rows -/
theorem cut_take (xs : List V) {j : Nat} (h : j ≤ xs.length) : cutV xs none (some (j : Int)) = xs.take j := by
  unfold cutV
  rw [HT.sIx_none, HT.sIx_nat, List.drop_zero, Nat.sub_zero, Nat.min_eq_left h]
theorem take_range {f : Nat → Int} {n j : Nat} (h : j ≤ n) : ((List.range n).map f).take j = (List.range j).map f := by
  rw [← List.map_take, List.take_range, Nat.min_eq_left h]
def spRows : Sp := fun vs H Q _ => ∃ (T : Addr) (n : Nat) (M : Mx) (rs : List Addr), vs = [.ref T] ∧ TbA H T n M rs ∧ n ≤ 9 ∧
  ∀ (H' : Hp) (t : Addr) (rs' : List Addr), Same H H' → H t = none → H' t = some (.lst (vR rs')) → Rws lI H' rs' (rowsM M n) → Q (.ref t) H'
abbrev nRows : List Str := ["_law_table", "_law_j"]
theorem scRows : FnScope nRows ["_law_table"] (defScope sRows) := ⟨rfl, rfl, rfl, by decide +kernel, rfl, by decide +kernel, by decide +kernel⟩
theorem ok_rows {f : Addr} {fd : FuncData} (F : Fun K "_law_rows" "_law_rows" sRows f fd) (B : Blt mg) : FnOk P w K mg base CX0 1 f fd ["_law_table"] spRows := by
  refine F.ok scRows (fun vs H Q E h => ?_) (fun cdv A outer s H vs Q E hr h => ?_)
  · obtain ⟨T, n, M, rs, rfl, _⟩ := h
    rfl
  · obtain ⟨T, n, M, rs, rfl, hT, n9, k⟩ := h
    refine ⟨_, pss_one (ps_ret (pe_lc (own := [("_law_j", 1)]) (g := gName 1) (tt := tYes) (te := tCB (rListOf K) (tCons (tSl (rSlL K) (tOp (rIxL K) (tVar 0) (tVar 1)) tNoPart (tPart (tVar 1))) tNil)) rfl scRows.nd (pi_range1 rfl B.range (pa_cons (pe_b call_len_seq B.len PySem.boot_len (pa_cons (pv 0) pa_nil)) pa_nil)) (blkOk_by (N := nRows) (sc := defScope sRows) (by decide +kernel)) (fun _ _ _ _ _ => pg_name (i := 1) scRows.nd rfl (Or.inl rfl)) (fun _ _ _ _ _ => pts_nil)
      (fun _ _ _ _ _ => pe_t (r := rListOf K) call_list_of B.list PyProof.Rows.boot_list (pa_cons (pe_slice (r := rSlL K) sl_list (pe_ix (r := rIxL K) ix_list (pv 0) (pv 1) (fun _ _ => rfl)) po_none (po_some (pv 1))) pa_nil)))), ?_⟩
    have hlen := hT.len
    refine ⟨_, rfl, _, _, rfl, .inl (SqL.of hT.1), _, rfl, by omega, by rw [vR_len]; omega, fun D hD => lc_range (n := ((vR rs).length : Int).toNat) (fun i H1 => Same H H1 ∧ ∃ rs', H1 D = some (.lst (vR rs')) ∧ Rws lI H1 rs' (rowsM M i) ∧ ∀ b ∈ rs', b ≠ D) ⟨Same.upd_new hD, [], upd_same, Rws.nil, fun b hb => by cases hb⟩ ?_ ?_⟩
    · rintro i H1 hi ⟨s1, rs', hDr, hrs, hfr⟩
      rw [vR_len, hlen] at hi
      have hin : i < n := by omega
      obtain ⟨ra, hra, hrow⟩ := (hT.same s1).row hin
      have ei : (0 : Int) + (i : Int) = (i : Int) := by omega
      refine ⟨rfl, yesT ?_⟩
      rw [ei]
      refine ⟨_, rfl, _, rfl, _, _, _, _, rfl, rfl, SqL.of (hT.same s1).1, at_of (j := i) rfl (vR_at hra), _, rfl, _, rfl, ra, _, rfl, SqL.of hrow, fun p hp => ?_⟩
      have ec : cutV (vI ((List.range n).map (M i))) none (some (i : Int)) = vI ((List.range i).map (M i)) := by
        rw [cut_take _ (by rw [vI_len, List.length_map, List.length_range]; omega), vI, ← List.map_take, take_range (by omega)]
      rw [ec]
      have s2 : Same H1 (upd H1 p (.lst (vI ((List.range i).map (M i))))) := Same.upd_new hp
      have p2 : upd H1 p (.lst (vI ((List.range i).map (M i)))) p = some (.lst (vI ((List.range i).map (M i)))) := upd_same
      generalize upd H1 p (.lst (vI ((List.range i).map (M i)))) = H2 at s2 p2
      refine ⟨p, _, rfl, .inl (SqL.of p2), fun l hl => ?_⟩
      have s3 : Same H2 (upd H2 l (.lst (vI ((List.range i).map (M i))))) := Same.upd_new hl
      have l3 : lI (upd H2 l (.lst (vI ((List.range i).map (M i))))) l ((List.range i).map (M i)) := upd_same
      have nlD : l ≠ D := fun e => by rw [e, s2 _ _ hDr] at hl; cases hl
      generalize upd H2 l (.lst (vI ((List.range i).map (M i)))) = H3 at s3 l3
      refine ⟨_, s3 _ _ (s2 _ _ hDr), by rw [vR_len, hrs.len, rowsM_len]; exact size_lt (by omega), Same.put ((s1.trans s2).trans s3) hD, rs' ++ [l], by rw [upd_same, ← vR_snoc], ?_, ?_⟩
      · have er : rowsM M (i + 1) = rowsM M i ++ [(List.range i).map (M i)] := by
          unfold rowsM
          rw [List.range_succ, List.map_append]; rfl
        rw [er]
        refine ((hrs.same (lI_same (s2.trans s3))).updL hfr).snoc ?_
        show upd H3 D _ l = _
        rw [upd_ne nlD]; exact l3
      · intro b hb
        rcases List.mem_append.mp hb with hb | hb
        · exact hfr b hb
        · rw [List.mem_singleton] at hb; subst hb
          exact nlD
    · rintro H1 ⟨s1, rs', hDr, hrs, hfr⟩
      have en : ((vR rs).length : Int).toNat = n := by rw [vR_len]; omega
      rw [en] at hrs
      exact k H1 D rs' s1 hD hDr hrs
/-! ### _law_tuples -/
def spTuples : Sp := fun vs H Q _ => ∃ (T : Addr) (n : Nat) (M : Mx) (rs : List Addr), vs = [.ref T] ∧ TbA H T n M rs ∧ n ≤ 9 ∧
  ∀ (H' : Hp) (t : Addr) (ts : List Addr), Same H H' → H' t = some (.tup (vR ts)) → Rws tI H' ts (rowsM M n) → Q (.ref t) H'
abbrev nTuples : List Str := ["_law_table", "_law_row"]
theorem scTuples : FnScope nTuples ["_law_table"] (defScope sTuples) := ⟨rfl, rfl, rfl, by decide +kernel, rfl, by decide +kernel, by decide +kernel⟩
theorem ok_tuples {f : Addr} {fd : FuncData} (F : Fun K "_law_tuples" "_law_tuples" sTuples f fd) (B : Blt mg) (cR : Cal P w K mg base CX0 1 "_law_rows" ["_law_table"] spRows) : FnOk P w K mg base CX0 2 f fd ["_law_table"] spTuples := by
  refine F.ok scTuples (fun vs H Q E h => ?_) (fun cdv A outer s H vs Q E hr h => ?_)
  · obtain ⟨T, n, M, rs, rfl, _⟩ := h
    rfl
  · obtain ⟨T, n, M, rs, rfl, hT, n9, k⟩ := h
    refine ⟨_, pss_one (ps_ret (pe_t call_tuple_of B.tuple PyProof.Rows.boot_tuple (pa_cons (pe_lc (own := [("_law_row", 1)]) (g := gName 1) (tt := tYes) (te := tCB (rTupOf K) (tCons (tVar 1) tNil)) rfl scTuples.nd (pi_list (pe_cal cR hr pass0 (pa_cons (pv 0) pa_nil))) (blkOk_by (N := nTuples) (sc := defScope sTuples) (by decide +kernel)) (fun _ _ _ _ _ => pg_name (i := 1) scTuples.nd rfl (Or.inl rfl)) (fun _ _ _ _ _ => pts_nil)
      (fun _ _ _ _ _ => pe_t (r := rTupOf K) call_tuple_of B.tuple PyProof.Rows.boot_tuple (pa_cons (pv 1) pa_nil))) pa_nil))), ?_⟩
    refine ⟨_, rfl, T, n, M, rs, rfl, hT, n9, fun H1 L rs' s1 hL0 hL hrs => ?_⟩
    refine ⟨L, rfl, ⟨_, SqL.of hL⟩, fun D hD => lc_list (K := K) (a := L) (xs := vR rs') (fun i H2 => Same H1 H2 ∧ ∃ ts, H2 D = some (.lst (vR ts)) ∧ Rws tI H2 ts ((rowsM M n).take i)) ⟨Same.upd_new hD, [], upd_same, Rws.nil⟩ (fun i H2 _ q => SqL.of (q.1 _ _ hL)) ?_ ?_⟩
    · rintro i x H2 hi ⟨s2, ts, hDt, hts⟩
      obtain ⟨b, hb, rfl⟩ := vR_get hi
      have hil : i < (rowsM M n).length := by rw [← hrs.len]; exact (List.getElem?_eq_some_iff.mp hb).1
      have hRi : (rowsM M n)[i]? = some ((rowsM M n).getD i []) := get_of [] hil
      have hbl := hrs.at_ i b _ hb hRi
      rw [rowsM_len] at hil
      have htl : ts.length = i := by rw [hts.len, List.length_take, rowsM_len]; omega
      refine ⟨rfl, yesT ⟨_, rfl, b, _, rfl, .inl ⟨SqL.of (s2 _ _ hbl), fun l hl => ?_⟩⟩⟩
      have s3 : Same H2 (upd H2 l (.tup (vI ((rowsM M n).getD i [])))) := Same.upd_new hl
      have l3 : tI (upd H2 l (.tup (vI ((rowsM M n).getD i [])))) l ((rowsM M n).getD i []) := upd_same
      generalize upd H2 l (.tup (vI ((rowsM M n).getD i []))) = H3 at s3 l3
      have D3 := s3 _ _ hDt
      refine ⟨_, D3, by rw [vR_len, htl]; exact size_lt (by omega), Same.put (s2.trans s3) hD, ts ++ [l], by rw [upd_same, ← vR_snoc], ?_⟩
      rw [take_snoc hRi]
      exact ((hts.same (tI_same s3)).same (tI_put D3)).snoc (tI_put D3 _ _ l3)
    · rintro H2 ⟨s2, ts, hDt, hts⟩
      rw [vR_len, hrs.len, List.take_length] at hts
      refine ⟨_, _, rfl, .inl ⟨SqL.of hDt, fun t ht => ?_⟩⟩
      have s3 : Same H2 (upd H2 t (.tup (vR ts))) := Same.upd_new ht
      exact k _ t ts ((s1.trans s2).trans s3) upd_same (hts.same (tI_same s3))
end
end K7

namespace K7
open PySem PySem.Spec L2
section
variable {P : Program} {w : World} {K : PySem.W.Frag} {mg : Str → Option Value} {base : Heap}
/-! ### _law_least -/
def spLeast : Sp := fun vs H Q _ => ∃ (T : Addr) (n : Nat) (M : Mx) (rs : List Addr), vs = [.ref T] ∧ TbA H T n M rs ∧ n ≤ 5 ∧
  ∀ (H' : Hp) (t : Addr) (ts : List Addr) (R : List (List Int)), Same H H' → H' t = some (.tup (vR ts)) → Rws tI H' ts R → IsLeast M n R → Q (.ref t) H'
def spOrders : Sp := fun vs H Q _ => ∃ n : Nat, vs = [.int n] ∧ n ≤ 5 ∧ ∀ (H' : Hp) (t : Addr) (os : List Addr), Same H H' → H' t = some (.lst (vR os)) → Rws lI H' os ((ordersN n n).map iN) → Q (.ref t) H'
abbrev nLeast : List Str := ["_law_table", "_law_best", "_law_order", "_law_rows_here"]
theorem scLeast : FnScope nLeast ["_law_table"] (defScope sLeast) := ⟨rfl, rfl, rfl, by decide +kernel, rfl, by decide +kernel, by decide +kernel⟩
theorem ok_least {f : Addr} {fd : FuncData} (F : Fun K "_law_least" "_law_least" sLeast f fd) (B : Blt mg) (cT : Cal P w K mg base CX0 2 "_law_tuples" ["_law_table"] spTuples) (cO : Cal P w K mg base CX0 1 "_law_orders" ["_law_many"] spOrders)
    (cP : Cal P w K mg base CX0 1 "_law_part" ["_law_table", "_law_places"] spPart) : FnOk P w K mg base CX0 3 f fd ["_law_table"] spLeast := by
  refine F.ok scLeast (fun vs H Q E h => ?_) (fun cdv A outer s H vs Q E hr h => ?_)
  · obtain ⟨T, n, M, rs, rfl, _⟩ := h
    rfl
  · obtain ⟨T, n, M, rs, rfl, hT, n5, k⟩ := h
    refine ⟨_, pss_cons (ps_set (i := 1) scLeast.nd rfl (Or.inl rfl) (pe_cal cT hr pass0 (pa_cons (pv 0) pa_nil)))
      (pss_cons (ps_for PassesOwn.never rfl (pi_list (pe_cal cO hr pass0 (pa_cons (pe_b call_len_seq B.len PySem.boot_len (pa_cons (pv 0) pa_nil)) pa_nil))) (pg_name (i := 2) scLeast.nd rfl (Or.inl rfl))
        (pss_cons (ps_set (i := 3) scLeast.nd rfl (Or.inl rfl) (pe_cal cT hr pass0 (pa_cons (pe_cal cP hr pass0 (pa_cons (pv 0) (pa_cons (pv 2) pa_nil))) pa_nil)))
        (pss_one (ps_if (pt_cmpR (op_ltD hr.units) (pv 3) (pv 1) (nomark _)) (pss_one (ps_set (i := 1) scLeast.nd rfl (Or.inl rfl) (pv 3))) pss_nil))))
      (pss_one (ps_ret (pv 1)))), ?_⟩
    refine ⟨_, rfl, T, n, M, rs, rfl, hT, by omega, fun H1 bt ts s1 hbt hts => ?_⟩
    have hT1 := hT.same s1
    refine ⟨_, rfl, _, _, rfl, .inl (SqL.of hT1.1), n, ?_, n5, fun H2 ol os s2 hol hos => ?_⟩
    · show [V.int ((vR rs).length : Int)] = _
      rw [vR_len, hT.len]
    · have hl : os.length = (ordersN n n).length := by rw [hos.len, List.length_map]
      refine ⟨ol, rfl, ⟨_, SqL.of hol⟩, for_list (K := K) (a := ol) (xs := vR os) (fun i σ H' => ∃ bt v2 v3 ts R, σ = [some (.ref T), some (.ref bt), v2, v3] ∧ Same H2 H' ∧ H' bt = some (.tup (vR ts)) ∧ Rws tI H' ts R ∧ (∃ o, Ord n n o ∧ rowsO M o = R) ∧ ∀ o ∈ (ordersN n n).take i, lt2 (rowsO M o) R = false)
        ⟨bt, none, none, ts, rowsM M n, rfl, Same.refl H2, s2 _ _ hbt, hts.same (tI_same s2), ⟨List.range n, Ord.range n, rowsO_range M n⟩, fun o ho => by simp at ho⟩ (fun i σ H' _ q => ?_) ?_ ?_⟩
      · obtain ⟨_, _, _, _, _, _, s3, _⟩ := q
        exact SqL.of (s3 _ _ hol)
      · rintro i x σ H3 hi ⟨bt, v2, v3, ts, R, rfl, s3, hbt3, hts3, hR, hmin⟩
        obtain ⟨b, hb, rfl⟩ := vR_get hi
        have hil : i < (ordersN n n).length := by rw [← hl]; exact (List.getElem?_eq_some_iff.mp hb).1
        obtain ⟨o, ho⟩ : ∃ o, (ordersN n n)[i]? = some o := ⟨_, List.getElem?_eq_getElem hil⟩
        have hbo : lI H2 b (iN o) := hos.at_ i b _ hb (by rw [List.getElem?_map, ho]; rfl)
        have hord : Ord n n o := (mem_ordersN n n o).mp (List.mem_of_getElem? ho)
        have hT3 := (hT1.same s2).same s3
        refine ⟨_, rfl, _, rfl, T, b, n, M, rs, o, rfl, hT3, s3 _ _ hbo, hord, by omega, fun H4 pt prs s4 hp0 hpt hnd hfr => ?_⟩
        refine ⟨pt, n, _, prs, rfl, hpt, by omega, fun H5 nt nts s5 hnt hnts => ?_⟩
        rw [rowsM_ord hord] at hnts
        have s45 := s4.trans s5
        refine ⟨_, rfl, _, rfl, dT (rowsO M o), dT R, dp_dT hnt hnts, dp_dT (s45 _ _ hbt3) (hts3.same (tI_same s45)), alike_dT _ _, (by intro z; cases z), Nat.le_trans (dep_dT _) (by decide), _, rfl, ?_⟩
        rw [lt_dT]
        cases hlt : lt2 (rowsO M o) R with
        | true =>
          refine iteT ⟨_, rfl, nt, _, _, nts, rowsO M o, rfl, s3.trans s45, hnt, hnts, ⟨o, hord, rfl⟩, fun o' ho' => ?_⟩
          rw [take_snoc ho] at ho'
          rcases List.mem_append.mp ho' with h1 | h1
          · have h2 := hmin o' h1
            cases h3 : lt2 (rowsO M o') (rowsO M o) with
            | false => rfl
            | true => rw [sto2.tr _ _ _ h3 hlt] at h2; cases h2
          · rw [List.mem_singleton] at h1; subst h1
            exact sto2.irr _
        | false =>
          refine iteF ⟨bt, _, _, ts, R, rfl, s3.trans s45, s45 _ _ hbt3, hts3.same (tI_same s45), hR, fun o' ho' => ?_⟩
          rw [take_snoc ho] at ho'
          rcases List.mem_append.mp ho' with h1 | h1
          · exact hmin o' h1
          · rw [List.mem_singleton] at h1; subst h1
            exact hlt
      · rintro σ H3 ⟨bt, v2, v3, ts, R, rfl, s3, hbt3, hts3, hR, hmin⟩
        rw [vR_len, hl, List.take_length] at hmin
        exact ⟨_, rfl, k H3 bt ts R ((s1.trans s2).trans s3) hbt3 hts3 (least_all hR hmin)⟩
/-! ### _law_refused -/
def spRefused (C CT : Addr) : Sp := fun vs H Q _ => ∃ (p : Addr) (bk : List Int) (n : Nat) (M : Mx), vs = [.ref p] ∧ CoM C CT H p bk n M ∧ 7 < n ∧ n ≤ 60 ∧ ∀ H', Same H H' → Q (.int n) H'
abbrev nRefused : List Str := ["_law_company_here", "_law_told", "e"]
theorem scRefused : FnScope nRefused ["_law_company_here"] (defScope sRefused) := ⟨rfl, rfl, rfl, by decide +kernel, rfl, by decide +kernel, by decide +kernel⟩
structure TxE (K : PySem.W.Frag) (CM : Addr) : Prop where
  xf : XfC K CM
  te : PySem.W.exmOne K (.ref CM) (.ref CM) = some true
theorem ok_refused {f C CT CM fM : Addr} {fd : FuncData} (F : Fun K "_law_refused" "_law_refused" sRefused f fd) (TM : TxM K mg CM fM) (TE : TxE K CM) (cL : Cal P w K mg base (L2.CX P w) 6 "least_form" ["company"] (spLeastForm C CT CM)) :
    FnOk P w K mg base CX0 7 f fd ["_law_company_here"] (spRefused C CT) := by
  refine F.ok scRefused (fun vs H Q E h => ?_) (fun cdv A outer s H vs Q E hr h => ?_)
  · obtain ⟨p, bk, n, M, rfl, _⟩ := h
    rfl
  · obtain ⟨p, bk, n, M, rfl, hc, n7, n60, k⟩ := h
    obtain ⟨fl, fdl, Fl, mgl, kl, bl⟩ := cL.ex
    refine ⟨_, pss_cons (ps_try_as (i := 2) (c := .ref CM) (tb := fun W => tAsg (tCallS (spLeastForm C CT CM) (WE W) (tCons (tVar 0) tNil)) (gName 1)) (ts := fun a cls d => tRet (tXf a cls d CM "count" (tVar 2))) (Wout := fun _ _ _ _ => False) rfl rfl scRefused.nd rfl rfl ⟨rfl, by decide, Or.inl TM.mgM⟩ takes0
        (fun W pn xe tk _ => pss_one (ps_set (i := 1) scRefused.nd rfl (Or.inl rfl) (by exact (pe_callS Fl hr rfl mgl kl bl (fun σ => passAt tk σ) (by exact (pa_cons (pv 0) pa_nil))))))
        (fun a oe cls d pn hz hf => pss_one (ps_ret (by exact (pe_xf TE.xf TM.no hz hf (pv 2)))))) pss_never, ?_⟩
    refine ⟨_, rfl, p, bk, n, M, rfl, hc, n60, fun z => absurd z (by omega), fun _ d H' s1 hd => ?_⟩
    refine ⟨true, TE.te, fun _ a0 _ => ?_, fun q => Bool.noConfusion q⟩
    exact ⟨_, rfl, rfl, rfl, d, _, _, rfl, hd, rfl, k H' s1⟩
end
end K7

namespace K7
open PySem PySem.Spec L2
def longPart (n : Nat) (o : List Nat) (j : Nat) : List (List Nat) := ((List.range j).filter fun p => decide (p ∉ o)).map fun p => o ++ [p]
theorem longPart_full (n : Nat) (o : List Nat) : longPart n o n = longerOne n o := rfl
theorem longPart_in {n j : Nat} {o : List Nat} (h : j ∉ o) : longPart n o (j + 1) = longPart n o j ++ [o ++ [j]] := by
  unfold longPart
  rw [List.range_succ, List.filter_append, List.map_append]
  simp [h]
theorem longPart_out {n j : Nat} {o : List Nat} (h : j ∈ o) : longPart n o (j + 1) = longPart n o j := by
  unfold longPart
  rw [List.range_succ, List.filter_append, List.map_append]
  simp [h]
theorem longPart_len (n : Nat) (o : List Nat) (j : Nat) : (longPart n o j).length ≤ j := by
  unfold longPart
  rw [List.length_map]
  have := List.length_filter_le (fun p => decide (p ∉ o)) (List.range j)
  rw [List.length_range] at this
  exact this
theorem longer_take {n i : Nat} {os : List (List Nat)} {o : List Nat} (h : os[i]? = some o) : longerAll n (os.take (i + 1)) = longerAll n (os.take i) ++ longerOne n o := by
  unfold longerAll
  rw [take_snoc h, List.flatMap_append]
  simp
theorem pow5 {n k : Nat} (hn : n ≤ 5) (hk : k ≤ 5) : n ^ k ≤ 3125 := by
  have h1 : n ^ k ≤ 5 ^ k := Nat.pow_le_pow_left hn k
  have h2 : 5 ^ k ≤ 5 ^ 5 := Nat.pow_le_pow_right (by decide) hk
  have h3 : (5 : Nat) ^ 5 = 3125 := by decide
  omega
theorem Rws.app {S : RK} {H : Hp} {as bs : List Addr} {R T : List (List Int)} (h : Rws S H as R) (g : Rws S H bs T) : Rws S H (as ++ bs) (R ++ T) := by
  refine ⟨by rw [List.length_append, List.length_append, h.len, g.len], fun i b r h1 h2 => ?_⟩
  by_cases hi : i < as.length
  · rw [List.getElem?_append_left hi] at h1
    rw [List.getElem?_append_left (by rw [← h.len]; exact hi)] at h2
    exact h.at_ i b r h1 h2
  · rw [List.getElem?_append_right (by omega)] at h1
    rw [List.getElem?_append_right (by rw [← h.len]; omega), ← h.len] at h2
    exact g.at_ _ b r h1 h2
/-- an order so far and what is left make all places -/
theorem shuf_turn {n : Nat} {o l : List Nat} (hnd : (o ++ l).Nodup) (hlt : ∀ x ∈ o ++ l, x < n) {k : Nat} (hk : k < l.length) : ((o ++ [l.getD k 0]) ++ l.eraseIdx k).Nodup ∧ ∀ x ∈ (o ++ [l.getD k 0]) ++ l.eraseIdx k, x < n := by
  have p : ((o ++ [l.getD k 0]) ++ l.eraseIdx k).Perm (o ++ l) := by
    rw [List.append_assoc]
    exact (take_out l k hk).append_left o
  exact ⟨p.nodup_iff.mpr hnd, fun x hx => hlt x (p.mem_iff.mp hx)⟩
/-- the ties from each to each, by the rows -/
def matOf (bk : List Int) (R : List (List Int)) : Mx := fun j i => if j < i then bkf bk ((R.getD i []).getD j 0) else if i < j then (R.getD j []).getD i 0 else -1
theorem row_rg {bk : List Int} {R : List (List Int)} (ok : RowsOk bk R) {i j : Nat} (hi : i < R.length) (hj : j < i) : 0 ≤ (R.getD i []).getD j 0 ∧ (R.getD i []).getD j 0 < (bk.length : Int) := by
  have hl := ok.len i hi
  refine ok.rg i hi _ ?_
  have e : (R.getD i []).getD j 0 = (R.getD i [])[j]'(by rw [hl]; exact hj) := by
    rw [List.getD_eq_getElem?_getD, List.getElem?_eq_getElem (by rw [hl]; exact hj)]; rfl
  rw [e]
  exact List.getElem_mem _
theorem matOf_ok {bk : List Int} {R : List (List Int)} (hb : BkOk bk) (ok : RowsOk bk R) : Mat bk R.length (matOf bk R) := by
  refine ⟨fun i j hi hj hne => ?_, fun i j hi hj hne => ?_⟩
  · unfold matOf
    by_cases h : i < j
    · rw [if_pos h]
      have q := row_rg ok hj h
      exact hb.back q.1 q.2
    · rw [if_neg h, if_pos (by omega)]
      exact row_rg ok hi (by omega)
  · unfold matOf
    by_cases h : i < j
    · rw [if_pos h, if_neg (by omega), if_pos h]
    · rw [if_neg h, if_pos (by omega), if_pos (by omega : j < i)]
      have q := row_rg ok hi (by omega : j < i)
      rw [hb.bb q.1 q.2]
theorem matOf_rows {bk : List Int} {R : List (List Int)} (ok : RowsOk bk R) : rowsM (matOf bk R) R.length = R := by
  unfold rowsM
  apply List.ext_getElem
  · rw [List.length_map, List.length_range]
  · intro k h1 h2
    have hl := ok.len k h2
    have e : R.getD k [] = R[k] := by simp [h2]
    rw [e] at hl
    rw [List.getElem_map, List.getElem_range]
    apply List.ext_getElem
    · rw [List.length_map, List.length_range, hl]
    · intro a g1 g2
      rw [List.getElem_map, List.getElem_range]
      have ha : a < k := by omega
      unfold matOf
      rw [if_neg (by omega), if_pos ha, e]
      simp [g2]
section
variable {P : Program} {w : World} {K : PySem.W.Frag} {mg : Str → Option Value} {base : Heap}
/-! ### _law_orders -/
abbrev nOrders : List Str := ["_law_many", "_law_found", "_law_k", "_law_longer", "_law_order", "_law_place"]
theorem scOrders : FnScope nOrders ["_law_many"] (defScope sOrders) := ⟨rfl, rfl, rfl, by decide +kernel, rfl, by decide +kernel, by decide +kernel⟩
theorem ok_orders {f : Addr} {fd : FuncData} (F : Fun K "_law_orders" "_law_orders" sOrders f fd) (B : Blt mg) : FnOk P w K mg base CX0 1 f fd ["_law_many"] spOrders := by
  refine F.ok scOrders (fun vs H Q E h => ?_) (fun cdv A outer s H vs Q E hr h => ?_)
  · obtain ⟨n, rfl, _⟩ := h
    rfl
  · obtain ⟨n, rfl, n5, k⟩ := h
    refine ⟨_, pss_cons (ps_set (i := 1) scOrders.nd rfl (Or.inl rfl) (pe_lst (pa_cons (pe_lst pa_nil) pa_nil)))
      (pss_cons (ps_for PassesOwn.never rfl (pi_range1 rfl B.range (pa_cons (pv 0) pa_nil)) (pg_name (i := 2) scOrders.nd rfl (Or.inl rfl))
        (pss_cons (ps_set (i := 3) scOrders.nd rfl (Or.inl rfl) (pe_lst pa_nil))
        (pss_cons (ps_for PassesOwn.never rfl (pi_list (pv 1)) (pg_name (i := 4) scOrders.nd rfl (Or.inr rfl))
          (pss_one (ps_set (i := 3) scOrders.nd rfl (Or.inl rfl) (pe_op op_cat (pv 3) (pe_lc (own := [("_law_place", 5)]) (g := gName 5) (tt := tTest (tOp (rIn K true) (tVar 5) (tVar 4))) (te := tOp rCat (tVar 4) (tLst (tCons (tVar 5) tNil))) rfl scOrders.nd (pi_range1 rfl B.range (pa_cons (pv 0) pa_nil)) (blkOk_by (N := nOrders) (sc := defScope sOrders) (by decide +kernel)) (fun _ _ _ _ _ => pg_name (i := 5) scOrders.nd rfl (Or.inl rfl))
            (fun _ _ _ _ _ => pts_one (pt_cmpR (r := rIn K true) op_notIn_seq (pv 5) (pv 4) (by rfl)))
            (fun _ _ _ _ _ => pe_op op_cat (pv 4) (pe_lst (pa_cons (pv 5) pa_nil))))))))
        (pss_one (ps_set (i := 1) scOrders.nd rfl (Or.inl rfl) (pe_t call_list_of B.list PyProof.Rows.boot_list (pa_cons (pv 3) pa_nil)))))))
      (pss_one (ps_ret (pv 1)))), ?_⟩
    refine ⟨by show 0 ≤ sizeLine; decide, fun e he => ⟨by show 1 ≤ sizeLine; decide, fun D hD => ?_⟩⟩
    have S1 : Same H (upd H e (.lst [])) := Same.upd_new he
    have S2 := Same.new (o := .lst [.ref e]) S1 hD
    have e2 : lI (upd (upd H e (.lst [])) D (.lst [.ref e])) e (iN []) := Same.upd_new (o := .lst [.ref e]) hD _ _ upd_same
    have D2 : upd (upd H e (.lst [])) D (.lst [.ref e]) D = some (.lst (vR [e])) := upd_same
    generalize upd (upd H e (.lst [])) D (.lst [.ref e]) = H1 at S2 e2 D2
    refine ⟨_, rfl, _, rfl, by omega, by omega, for_range (n := ((n : Nat) : Int).toNat) (fun i σ H' => ∃ fo v2 v3 v4 os, σ = [some (.int n), some (.ref fo), v2, v3, v4, none] ∧ Same H H' ∧ H' fo = some (.lst (vR os)) ∧ Rws lI H' os ((ordersN n i).map iN))
      ⟨D, none, none, none, [e], rfl, S2, D2, (Rws.nil (S := lI) (H := H1)).snoc e2⟩ ?_ ?_⟩
    · rintro i σ H2 hi ⟨fo, v2, v3, v4, os, rfl, s2, hfo, hos⟩
      have hin : i < n := by omega
      have hol : os.length = (ordersN n i).length := by rw [hos.len, List.length_map]
      have hp : n ^ i ≤ 3125 := pow5 n5 (by omega)
      have hp2 : n ^ (i + 1) ≤ 3125 := pow5 n5 (by omega)
      have hle := ordersN_len n i
      refine ⟨by show 0 ≤ sizeLine; decide, fun L hL => ?_⟩
      have s3 : Same H2 (upd H2 L (.lst [])) := Same.upd_new hL
      have L3 : upd H2 L (.lst []) L = some (.lst (vR [])) := upd_same
      generalize upd H2 L (.lst []) = H3 at s3 L3
      refine ⟨_, rfl, fo, rfl, ⟨_, SqL.of (s3 _ _ hfo)⟩, for_list (K := K) (a := fo) (xs := vR os) (fun j σ H' => ∃ lg v4 ls, σ = [some (.int n), some (.ref fo), some (.int (0 + (i : Int))), some (.ref lg), v4, none] ∧ Same H3 H' ∧ H' lg = some (.lst (vR ls)) ∧ Rws lI H' ls ((longerAll n ((ordersN n i).take j)).map iN))
        ⟨L, v4, [], rfl, Same.refl H3, L3, Rws.nil⟩ (fun j σ H' _ q => ?_) ?_ ?_⟩
      · obtain ⟨_, _, _, _, s4, _⟩ := q
        exact SqL.of (s4 _ _ (s3 _ _ hfo))
      · rintro j x σ H4 hj ⟨lg, v4, ls, rfl, s4, hlg, hls⟩
        obtain ⟨b, hb, rfl⟩ := vR_get hj
        have hjl : j < (ordersN n i).length := by rw [← hol]; exact (List.getElem?_eq_some_iff.mp hb).1
        obtain ⟨o, ho⟩ : ∃ o, (ordersN n i)[j]? = some o := ⟨_, List.getElem?_eq_getElem hjl⟩
        have hbo : lI H2 b (iN o) := hos.at_ j b _ hb (by rw [List.getElem?_map, ho]; rfl)
        have hord : Ord n i o := (mem_ordersN n i o).mp (List.mem_of_getElem? ho)
        have hbo4 : lI H4 b (iN o) := s4 _ _ (s3 _ _ hbo)
        have hll : (longerAll n ((ordersN n i).take j)).length + n ≤ 3125 := by
          have h1 := longerAll_len n ((ordersN n i).take j)
          rw [List.length_take] at h1
          have h2 : (min j (ordersN n i).length) * n + n ≤ (ordersN n i).length * n := by
            rw [← Nat.succ_mul]
            exact Nat.mul_le_mul_right n (by omega)
          have h3 : (ordersN n i).length * n ≤ n ^ i * n := Nat.mul_le_mul_right n hle
          rw [← Nat.pow_succ] at h3
          exact Nat.le_trans (Nat.add_le_add_right h1 n) (Nat.le_trans h2 (Nat.le_trans h3 hp2))
        refine ⟨_, rfl, _, rfl, _, rfl, by omega, by omega, fun D2 hD2 => lc_range (n := ((n : Nat) : Int).toNat) (fun p H' => Same H4 H' ∧ ∃ ns, H' D2 = some (.lst (vR ns)) ∧ Rws lI H' ns ((longPart n o p).map iN) ∧ ∀ b ∈ ns, b ≠ D2) ⟨Same.upd_new hD2, [], upd_same, Rws.nil, fun b hb => by cases hb⟩ ?_ ?_⟩
        · rintro p H5 hp ⟨s5, ns, hDn, hns, hfr⟩
          have hpn : p < n := by omega
          have ep : (0 : Int) + (p : Int) = (p : Int) := by omega
          have hb5 := s5 _ _ hbo4
          refine ⟨rfl, _, rfl, _, rfl, b, _, rfl, .inl (SqL.of hb5), rfl, flat_ints _, _, rfl, ?_⟩
          rw [if_pos rfl, inV_ints, ep]
          by_cases hm : p ∈ o
          · rw [decide_eq_true (mem_iN.mpr hm)]
            refine iteF ⟨s5, ns, hDn, ?_, hfr⟩
            rw [longPart_out hm]; exact hns
          · rw [decide_eq_false (fun z => hm (mem_iN.mp z))]
            refine iteT ⟨_, rfl, _, rfl, by show 1 ≤ sizeLine; decide, fun q hq => ?_⟩
            have s6 : Same H5 (upd H5 q (.lst [.int (p : Nat)])) := Same.upd_new hq
            have q6 : upd H5 q (.lst [.int (p : Nat)]) q = some (.lst [.int (p : Nat)]) := upd_same
            generalize upd H5 q (.lst [.int (p : Nat)]) = H6 at s6 q6
            refine ⟨b, q, _, _, rfl, rfl, s6 _ _ hb5, q6, ?_, fun r hr => ?_⟩
            · rw [vI_len, iN_len, hord.len]
              exact size_of (by show i + 1 ≤ 1000000; omega)
            have e7 : vI (iN o) ++ [V.int (p : Nat)] = vI (iN (o ++ [p])) := by rw [vI_snoc]; simp
            rw [e7]
            have s7 : Same H6 (upd H6 r (.lst (vI (iN (o ++ [p]))))) := Same.upd_new hr
            have r7 : lI (upd H6 r (.lst (vI (iN (o ++ [p]))))) r (iN (o ++ [p])) := upd_same
            have nrD : r ≠ D2 := fun e => by rw [e, s6 _ _ hDn] at hr; cases hr
            generalize upd H6 r (.lst (vI (iN (o ++ [p])))) = H7 at s7 r7
            have s67 := s6.trans s7
            refine ⟨_, s67 _ _ hDn, ?_, Same.put (s5.trans s67) hD2, ns ++ [r], by rw [upd_same, ← vR_snoc], ?_, ?_⟩
            · have := longPart_len n o p
              rw [vR_len, hns.len, List.length_map]
              exact size_lt (by omega)
            · rw [longPart_in hm, List.map_append]
              refine ((hns.same (lI_same s67)).updL hfr).snoc ?_
              show upd H7 D2 _ r = _
              rw [upd_ne nrD]; exact r7
            · intro x hx
              rcases List.mem_append.mp hx with hx | hx
              · exact hfr x hx
              · rw [List.mem_singleton] at hx; subst hx
                exact nrD
        · rintro H5 ⟨s5, ns, hDn, hns, hfr⟩
          have en : ((n : Nat) : Int).toNat = n := by omega
          rw [en, longPart_full] at hns
          have hnl : ns.length ≤ n := by
            rw [hns.len, List.length_map, ← longPart_full]
            exact longPart_len n o n
          refine ⟨lg, D2, _, _, rfl, rfl, s5 _ _ hlg, hDn, ?_, fun q hq => ?_⟩
          · rw [vR_len, vR_len, hls.len, List.length_map]
            exact size_of (by omega)
          have e7 : vR ls ++ vR ns = vR (ls ++ ns) := (List.map_append).symm
          rw [e7]
          have s6 : Same H5 (upd H5 q (.lst (vR (ls ++ ns)))) := Same.upd_new hq
          refine ⟨q, _, ls ++ ns, rfl, s4.trans (s5.trans s6), upd_same, ?_⟩
          rw [longer_take ho, List.map_append]
          exact (hls.same (lI_same (s5.trans s6))).app (hns.same (lI_same s6))
      · rintro σ H4 ⟨lg, v4, ls, rfl, s4, hlg, hls⟩
        have e : (ordersN n i).take (vR os).length = ordersN n i := by rw [vR_len, hol, List.take_length]
        rw [e] at hls
        refine ⟨_, rfl, lg, _, rfl, .inl (SqL.of hlg), fun q hq => ?_⟩
        have s5 : Same H4 (upd H4 q (.lst (vR ls))) := Same.upd_new hq
        exact ⟨q, _, _, _, ls, rfl, (s2.trans s3).trans (s4.trans s5), upd_same, hls.same (lI_same s5)⟩
    · rintro σ H2 ⟨fo, v2, v3, v4, os, rfl, s2, hfo, hos⟩
      have en : ((n : Nat) : Int).toNat = n := by omega
      rw [en] at hos
      exact ⟨_, rfl, k H2 fo os s2 hfo hos⟩
end
end K7

namespace K7
open PySem PySem.Spec L2
section
variable {P : Program} {w : World} {K : PySem.W.Frag} {mg : Str → Option Value} {base : Heap}
/-! ### _law_company -/
/-- how the two classes make their instances -/
structure Mks (P : Program) (w : World) (K : PySem.W.Frag) (mg : Str → Option Value) (base : Heap) (C CT : Addr) : Prop where
  c : ∃ (f : Addr) (fd : FuncData), Mk K C f ∧ FnOk P w K mg base CX0 4 f fd ["self", "ties", "guests", "rows"] (spCompany C CT) ∧ Binds K fd ["self", "ties", "guests", "rows"] []
  t : ∃ (f : Addr) (fd : FuncData), Mk K CT f ∧ FnOk P w K mg base CX0 2 f fd ["self", "backs"] (spTies CT) ∧ Binds K fd ["self", "backs"] []
def spLCompany (C CT : Addr) : Sp := fun vs H Q _ => ∃ (B G T : Addr) (bk g : List Int) (n : Nat) (M : Mx) (rs : List Addr), vs = [.ref B, .ref G, .ref T] ∧ lI H B bk ∧ BkOk bk ∧ lI H G g ∧ LabOk g ∧ g.length = n ∧ TbA H T n M rs ∧ Mat bk n M ∧ n ≤ 9 ∧
  ∀ (H' : Hp) (p : Addr), Same H H' → CompAt C CT H' p bk g (rowsM M n) → Q (.ref p) H'
abbrev nLCompany : List Str := ["_law_backs_here", "_law_labels_here", "_law_table"]
theorem scLCompany : FnScope nLCompany nLCompany (defScope sLCompany) := ⟨rfl, rfl, rfl, by decide +kernel, rfl, by decide +kernel, by decide +kernel⟩
theorem ok_lcompany {f C CT : Addr} {fd : FuncData} (F : Fun K "_law_company" "_law_company" sLCompany f fd) (T : TxC K mg C) (TT : TxT K mg CT) (MM : Mks P w K mg base C CT) (cR : Cal P w K mg base CX0 1 "_law_rows" ["_law_table"] spRows) :
    FnOk P w K mg base CX0 6 f fd nLCompany (spLCompany C CT) := by
  refine F.ok scLCompany (fun vs H Q E h => ?_) (fun cdv A outer s H vs Q E hr h => ?_)
  · obtain ⟨B, G, T, bk, g, n, M, rs, rfl, _⟩ := h
    rfl
  · obtain ⟨Bp, G, Tp, bk, g, n, M, rs, rfl, hB, hbk, hG, hlab, hgl, hT, hM, n9, k⟩ := h
    obtain ⟨fC, fdC, MC, FC, bC⟩ := MM.c
    obtain ⟨fT, fdT, MT, FT, bT⟩ := MM.t
    refine ⟨_, pss_one (ps_ret (pe_make MC FC (hr.mono (by decide)) rfl T.mgC bC .nil pass0 (pa_cons (pe_make MT FT (hr.mono (by decide)) rfl TT.mgT bT .nil pass0 (pa_cons (pv 0) pa_nil)) (pa_cons (pv 1) (pa_cons (pe_cal cR hr pass0 (pa_cons (pv 2) pa_nil)) pa_nil))))), ?_⟩
    refine ⟨_, rfl, fun x dx hx hdx hne => ?_⟩
    have s1 : Same H (upd (upd H dx (.own x)) x (.ins CT dx [])) := Same.put (Same.new (Same.refl H) hdx) hx
    refine ⟨x, dx, Bp, bk, rfl, upd_same, s1 _ _ hB, hbk, fun H2 b2 hT2 => ⟨rfl, ?_⟩⟩
    have s2 : Same H H2 := fun a o e => b2 a o (ne_of_none e hx) (s1 a o e)
    refine ⟨_, rfl, _, rfl, Tp, n, M, rs, rfl, hT.same s2, n9, fun H3 L rs' s3 hL0 hL hrs => ?_⟩
    have s23 := s2.trans s3
    intro y dy hy hdy hne2
    have s4 : Same H3 (upd (upd H3 dy (.own y)) y (.ins C dy [])) := Same.put (Same.new (Same.refl H3) hdy) hy
    have hl : (rowsM M n).length = n := rowsM_len M n
    refine ⟨y, dy, x, G, L, bk, g, rowsM M n, rs', rfl, upd_same, hT2.same (s3.trans s4), s4 _ _ (s23 _ _ hG), s4 _ _ hL, (hrs.same (lI_same s4)).imp fun _ _ _ q => .inl q, by rw [hl, hgl], by omega, hlab, hM.rows, fun H5 b5 hc => ⟨rfl, ?_⟩⟩
    exact k H5 y (fun a o e => b5 a o (ne_of_none (s23 a o e) hy) (s4 a o (s23 a o e))) hc
/-! ### _law_shuffled -/
def spShuffled : Sp := fun vs H Q _ => ∃ (h c L : Addr) (n : Nat), vs = [.ref h, .ref L] ∧ Hnd H h c ∧ lI H L (iN (List.range n)) ∧ n ≤ 9 ∧ ∀ (H' : Hp) (B : Addr) (o : List Nat), Kp h c H H' → H B = none → lI H' B (iN o) → Ord n n o → Q (.ref B) H'
abbrev nShuffled : List Str := ["_law_hand_here", "_law_things", "_law_left", "_law_found", "_law_k"]
theorem scShuffled : FnScope nShuffled ["_law_hand_here", "_law_things"] (defScope sShuffled) := ⟨rfl, rfl, rfl, by decide +kernel, rfl, by decide +kernel, by decide +kernel⟩
theorem ok_shuffled {f : Addr} {fd : FuncData} (F : Fun K "_law_shuffled" "_law_shuffled" sShuffled f fd) (B : Blt mg) (cD : Cal P w K mg base CX0 2 "_law_draw" ["_law_hand_here", "_law_many"] spDraw) : FnOk P w K mg base CX0 3 f fd ["_law_hand_here", "_law_things"] spShuffled := by
  refine F.ok scShuffled (fun vs H Q E h => ?_) (fun cdv A outer s H vs Q E hr h => ?_)
  · obtain ⟨h, c, L, n, rfl, _⟩ := h
    rfl
  · obtain ⟨h, c, L, n, rfl, hh, hL, n9, k⟩ := h
    refine ⟨_, pss_cons (ps_set (i := 2) scShuffled.nd rfl (Or.inl rfl) (pe_t call_list_of B.list PyProof.Rows.boot_list (pa_cons (pv 1) pa_nil)))
      (pss_cons (ps_set (i := 3) scShuffled.nd rfl (Or.inl rfl) (pe_lst pa_nil))
      (pss_cons (ps_for PassesOwn.never rfl (pi_range1 rfl B.range (pa_cons (pe_b call_len_seq B.len PySem.boot_len (pa_cons (pv 1) pa_nil)) pa_nil)) (pg_name (i := 4) scShuffled.nd rfl (Or.inl rfl))
        (pss_one (ps_expr (pe_bm PySem.F.plainAttrs_list PySem.F.slot_list_append PySem.F.type_list_append mt_append (pv 3) (pa_cons
          (pe_bm PySem.F.plainAttrs_list PySem.F.slot_list_pop PySem.F.type_list_pop mt_popAt (pv 2) (pa_cons (pe_cal cD hr pass0 (pa_cons (pv 0) (pa_cons (pe_b call_len_seq B.len PySem.boot_len (pa_cons (pv 2) pa_nil)) pa_nil))) pa_nil)) pa_nil)))))
      (pss_one (ps_ret (pv 3))))), ?_⟩
    refine ⟨_, rfl, L, _, rfl, .inl (SqL.of hL), fun D hD0 => ?_⟩
    have hD : H D = none := hD0
    have k1 := (Kp.refl hh).new (o := .lst (vI (iN (List.range n)))) hD
    have D1 : upd H D (.lst (vI (iN (List.range n)))) D = some (.lst (vI (iN (List.range n)))) := upd_same
    generalize upd H D (.lst (vI (iN (List.range n)))) = H1 at k1 D1
    refine ⟨by show 0 ≤ sizeLine; decide, fun Fd hF => ?_⟩
    have nDF : D ≠ Fd := ne_of_none D1 hF
    have hF0 := k1.free hF
    have k2 := k1.new (o := .lst []) hF
    have D2 : upd H1 Fd (.lst []) D = some (.lst (vI (iN (List.range n)))) := by rw [upd_ne nDF]; exact D1
    have F2 : upd H1 Fd (.lst []) Fd = some (.lst (vI (iN []))) := upd_same
    generalize upd H1 Fd (.lst []) = H2 at k2 D2 F2
    refine ⟨_, rfl, L, _, rfl, .inl (SqL.of (k2.lI hL)), _, rfl, by omega, by rw [vIN_len, List.length_range]; omega, for_range (n := ((vI (iN (List.range n))).length : Int).toNat) (fun i σ H' => ∃ v4 o l, σ = [some (.ref h), some (.ref L), some (.ref D), some (.ref Fd), v4] ∧ Kp h c H H' ∧ H' D = some (.lst (vI (iN l))) ∧ H' Fd = some (.lst (vI (iN o))) ∧ o.length = i ∧ l.length + i = n ∧ (o ++ l).Nodup ∧ ∀ x ∈ o ++ l, x < n)
      ⟨none, [], List.range n, rfl, k2, D2, F2, rfl, by rw [List.length_range]; rfl, List.nodup_range, fun x hx => List.mem_range.mp hx⟩ ?_ ?_⟩
    · rintro i σ H3 hi ⟨v4, o, l, rfl, kp, hl, ho, hol, hll, hnd, hlt⟩
      rw [vIN_len, List.length_range] at hi
      have hin : i < n := by omega
      refine ⟨_, rfl, .inl ⟨rfl, _, SqL.of ho⟩, _, rfl, .inl ⟨rfl, _, SqL.of hl⟩, _, rfl, _, rfl, _, _, rfl, .inl (SqL.of hl), h, c, _, rfl, kp.h1, by rw [vIN_len]; omega, by rw [vIN_len]; omega, fun v H4 kp4 v0 v1 => ?_⟩
      rw [vIN_len] at v1
      have kq := kp.trans kp4
      have hl4 := kp4.ref (nh_int _) hl
      have ho4 := kp4.ref (nh_int _) ho
      have i1 : v.toNat < l.length := by omega
      refine ⟨D, _, v, v.toNat, .int ((l.getD v.toNat 0 : Nat) : Int), rfl, rfl, hl4, by omega, by omega, by rw [vIN_len]; exact PySem.StrLaws.seqIndex_nonneg v0 v1, vIN_at i1, ?_⟩
      rw [vIN_erase]
      have t := shuf_turn hnd hlt i1
      have le : (l.eraseIdx v.toNat).length = l.length - 1 := by rw [List.length_eraseIdx, if_pos i1]
      refine ⟨Fd, _, _, rfl, rfl, by rw [upd_ne nDF.symm]; exact ho4, by rw [vIN_len, hol]; exact size_lt (by omega), ?_⟩
      have e7 : vI (iN o) ++ [V.int ((l.getD v.toNat 0 : Nat) : Int)] = vI (iN (o ++ [l.getD v.toNat 0])) := by rw [vI_snoc]; simp
      rw [e7]
      refine ⟨_, _, _, rfl, (kq.put hD).put hF0, by rw [upd_ne nDF, upd_same], upd_same, by rw [List.length_append, hol]; rfl, by omega, t.1, t.2⟩
    · rintro σ H3 ⟨v4, o, l, rfl, kp, hl, ho, hol, hll, hnd, hlt⟩
      rw [vIN_len, List.length_range] at hol hll
      have l0 : l = [] := List.length_eq_zero_iff.mp (by omega)
      subst l0
      rw [List.append_nil] at hnd hlt
      exact ⟨_, rfl, k H3 Fd o kp hF0 ho ⟨by omega, hnd, hlt⟩⟩
/-! ### _law_table_of -/
def spTableOf : Sp := fun vs H Q _ => ∃ (B R : Addr) (bk : List Int) (rs : List Addr) (Rw : List (List Int)), vs = [.ref B, .ref R] ∧ lI H B bk ∧ BkOk bk ∧ H R = some (.lst (vR rs)) ∧ Rws lI H rs Rw ∧ RowsOk bk Rw ∧ Rw.length ≤ 9 ∧
  ∀ (H' : Hp) (t : Addr) (rs' : List Addr), Same H H' → H t = none → TbA H' t Rw.length (matOf bk Rw) rs' → Q (.ref t) H'
abbrev nTableOf : List Str := ["_law_backs_here", "_law_rows_here", "_law_table", "_law_j", "_law_i"]
theorem scTableOf : FnScope nTableOf ["_law_backs_here", "_law_rows_here"] (defScope sTableOf) := ⟨rfl, rfl, rfl, by decide +kernel, rfl, by decide +kernel, by decide +kernel⟩
abbrev teTable (K : PySem.W.Frag) : TE := tIf (tTest (tOp (rI0 fun i j => .bl (decide (j < i))) (tVar 4) (tVar 3))) (tOp (rIxL K) (tVar 0) (tOp (rIxL K) (tOp (rIxL K) (tVar 1) (tVar 4)) (tVar 3)))
  (tIf (tTest (tOp (rI0 fun i j => .bl (decide (i < j))) (tVar 4) (tVar 3))) (tOp (rIxL K) (tOp (rIxL K) (tVar 1) (tVar 3)) (tVar 4)) (tUn (rU fun i => .int (-i)) (tC (.int 1))))
theorem ok_tableOf {f : Addr} {fd : FuncData} (F : Fun K "_law_table_of" "_law_table_of" sTableOf f fd) (B : Blt mg) : FnOk P w K mg base CX0 1 f fd ["_law_backs_here", "_law_rows_here"] spTableOf := by
  refine F.ok scTableOf (fun vs H Q E h => ?_) (fun cdv A outer s H vs Q E hr h => ?_)
  · obtain ⟨B, R, bk, rs, Rw, rfl, _⟩ := h
    rfl
  · obtain ⟨Bp, R, bk, rs, Rw, rfl, hB, hbk, hR, hrs, ok, n9, k⟩ := h
    have hrl : rs.length = Rw.length := hrs.len
    refine ⟨_, pss_cons (ps_set (i := 2) scTableOf.nd rfl (Or.inl rfl) (pe_lst pa_nil))
      (pss_cons (ps_for PassesOwn.never rfl (pi_range1 rfl B.range (pa_cons (pe_b call_len_seq B.len PySem.boot_len (pa_cons (pv 1) pa_nil)) pa_nil)) (pg_name (i := 3) scTableOf.nd rfl (Or.inr rfl))
        (pss_one (ps_expr (pe_bm PySem.F.plainAttrs_list PySem.F.slot_list_append PySem.F.type_list_append mt_append (pv 2) (pa_cons
          (pe_lc (own := [("_law_i", 4)]) (g := gName 4) (tt := tYes) (te := teTable K) rfl scTableOf.nd (pi_range1 rfl B.range (pa_cons (pe_b call_len_seq B.len PySem.boot_len (pa_cons (pv 1) pa_nil)) pa_nil)) (blkOk_by (N := nTableOf) (sc := defScope sTableOf) (by decide +kernel)) (fun _ _ _ _ _ => pg_name (i := 4) scTableOf.nd rfl (Or.inl rfl)) (fun _ _ _ _ _ => pts_nil)
            (fun _ _ _ _ _ => pe_ifExp (pt_cmpR op_gt (pv 4) (pv 3) (nomark _)) (pe_ix (r := rIxL K) ix_list (pv 0) (pe_ix (r := rIxL K) ix_list (pe_ix (r := rIxL K) ix_list (pv 1) (pv 4) (fun _ _ => rfl)) (pv 3) (fun _ _ => rfl)) (fun _ _ => rfl))
              (pe_ifExp (pt_cmpR op_lt (pv 4) (pv 3) (nomark _)) (pe_ix (r := rIxL K) ix_list (pe_ix (r := rIxL K) ix_list (pv 1) (pv 3) (fun _ _ => rfl)) (pv 4) (fun _ _ => rfl)) (pe_un un_neg pe_int)))) pa_nil)))))
      (pss_one (ps_ret (pv 2)))), ?_⟩
    generalize hn : Rw.length = n at *
    refine ⟨by show 0 ≤ sizeLine; decide, fun D hD => ?_⟩
    have s0 : Same H (upd H D (.lst [])) := Same.upd_new hD
    have D0 : upd H D (.lst []) D = some (.lst (vR [])) := upd_same
    generalize upd H D (.lst []) = H0 at s0 D0
    refine ⟨_, rfl, _, _, rfl, .inl (SqL.of (s0 _ _ hR)), _, rfl, by omega, by rw [vR_len]; omega, for_range (n := ((vR rs).length : Int).toNat) (fun i σ H' => ∃ v3 rs', σ = [some (.ref Bp), some (.ref R), some (.ref D), v3, none] ∧ Same H H' ∧ H' D = some (.lst (vR rs')) ∧ Rws lI H' rs' ((List.range i).map fun k => (List.range n).map fun a => matOf bk Rw k a) ∧ ∀ b ∈ rs', b ≠ D)
      ⟨none, [], rfl, s0, D0, Rws.nil, fun b hb => by cases hb⟩ ?_ ?_⟩
    · rintro j σ H1 hj ⟨v3, rs', rfl, s1, hDr, hrs', hfr⟩
      rw [vR_len, hrl] at hj
      have hjn : j < n := by omega
      have ej : (0 : Int) + (j : Int) = (j : Int) := by omega
      refine ⟨_, rfl, .inl ⟨rfl, _, SqL.of hDr⟩, _, rfl, _, _, rfl, .inl (SqL.of (s1 _ _ hR)), _, rfl, by omega, by rw [vR_len]; omega, fun D2 hD2 => lc_range (n := ((vR rs).length : Int).toNat) (fun i H' => Same H1 H' ∧ H' D2 = some (.lst (vI ((List.range i).map fun a => matOf bk Rw j a)))) ⟨Same.upd_new hD2, upd_same⟩ ?_ ?_⟩
      · rintro i H2 hi ⟨s2, hDi⟩
        rw [vR_len, hrl] at hi
        have hin : i < n := by omega
        have ei : (0 : Int) + (i : Int) = (i : Int) := by omega
        have s12 := s1.trans s2
        have hR2 := s12 _ _ hR
        have hrs2 := hrs.same (lI_same s12)
        obtain ⟨ri, hri, hrowi⟩ := hrs2.get (i := i) (by omega)
        obtain ⟨rj, hrj, hrowj⟩ := hrs2.get (i := j) (by omega)
        have hli := ok.len i (by omega)
        have hlj := ok.len j (by omega)
        have fin : ∀ v, v = matOf bk Rw j i → ∃ acc, H2 D2 = some (.lst acc) ∧ acc.length < sizeLine ∧ (fun (i : Nat) (H' : Hp) => Same H1 H' ∧ H' D2 = some (.lst (vI ((List.range i).map fun a => matOf bk Rw j a)))) (i + 1) (upd H2 D2 (.lst (acc ++ [.int v]))) := fun v e => by
          subst e
          refine ⟨_, hDi, by rw [vI_len, List.length_map, List.length_range]; exact size_lt (by omega), Same.put s2 hD2, ?_⟩
          rw [upd_same, vI_snoc, List.range_succ, List.map_append]
          rfl
        refine ⟨rfl, yesT ?_⟩
        rw [ei, ej]
        refine ⟨_, rfl, _, rfl, _, _, rfl, rfl, _, rfl, ?_⟩
        by_cases h1 : (j : Int) < (i : Int)
        · rw [decide_eq_true h1]
          have q := row_rg ok (by omega : i < Rw.length) (by omega : j < i)
          refine iteT ⟨_, rfl, _, rfl, _, rfl, _, _, _, _, rfl, rfl, SqL.of hR2, at_of (j := i) rfl (vR_at hri), _, rfl, _, _, _, _, rfl, rfl, SqL.of hrowi, at_of (j := j) rfl (vI_at (by omega)), _, _, _, _, rfl, rfl, SqL.of (s12 _ _ hB), at_int q.1 q.2, ?_⟩
          refine fin _ ?_
          unfold matOf bkf
          rw [if_pos (by omega)]
        · rw [decide_eq_false h1]
          refine iteF ⟨_, rfl, _, rfl, _, _, rfl, rfl, _, rfl, ?_⟩
          by_cases h2 : (i : Int) < (j : Int)
          · rw [decide_eq_true h2]
            refine iteT ⟨_, rfl, _, rfl, _, _, _, _, rfl, rfl, SqL.of hR2, at_of (j := j) rfl (vR_at hrj), _, rfl, _, _, _, _, rfl, rfl, SqL.of hrowj, at_of (j := i) rfl (vI_at (by omega)), ?_⟩
            refine fin _ ?_
            unfold matOf
            rw [if_neg (by omega), if_pos (by omega)]
          · rw [decide_eq_false h2]
            refine iteF ⟨_, rfl, ?_⟩
            refine fin _ ?_
            unfold matOf
            rw [if_neg (by omega), if_neg (by omega)]
      · rintro H2 ⟨s2, hDi⟩
        have en : ((vR rs).length : Int).toNat = n := by rw [vR_len]; omega
        rw [en] at hDi
        have hDr2 := s2 _ _ hDr
        have n2 : D2 ≠ D := fun e => by rw [e, hDr] at hD2; cases hD2
        refine ⟨D, vR rs', _, rfl, rfl, hDr2, by rw [vR_len, hrs'.len, List.length_map, List.length_range]; exact size_lt (by omega), _, rs' ++ [D2], rfl, Same.put (s1.trans s2) hD, by rw [upd_same, ← vR_snoc], ?_, ?_⟩
        · rw [List.range_succ, List.map_append]
          refine ((hrs'.same (lI_same s2)).updL hfr).snoc ?_
          show upd H2 D _ D2 = _
          rw [upd_ne n2]; exact hDi
        · intro x hx
          rcases List.mem_append.mp hx with hx | hx
          · exact hfr x hx
          · rw [List.mem_singleton] at hx; subst hx
            exact n2
    · rintro σ H1 ⟨v3, rs', rfl, s1, hDr, hrs', hfr⟩
      have en : ((vR rs).length : Int).toNat = n := by rw [vR_len]; omega
      rw [en] at hrs'
      exact ⟨_, rfl, k H1 D rs' s1 hD ⟨hDr, hrs'⟩⟩
end
end K7

namespace K7
open PySem PySem.Spec L2
/-! ### <= of tuples of tuples of numbers, where it is so -/
def lexL {α : Type} [DecidableEq α] (le : α → α → Bool) : List α → List α → Bool
  | [], _ => true
  | _ :: _, [] => false
  | x :: xs, y :: ys => if x = y then lexL le xs ys else le x y
theorem lexAt_shift (e r : Nat → Bool) (z : Bool) : ∀ (k i : Nat), Ob.lexAt e r z (i + 1) k = Ob.lexAt (fun j => e (j + 1)) (fun j => r (j + 1)) z i k
  | 0, i => by rw [Ob.lexAt_zero, Ob.lexAt_zero]
  | k + 1, i => by rw [Ob.lexAt_succ, Ob.lexAt_succ, lexAt_shift e r z k (i + 1)]
theorem lexAt_lexL {α : Type} [DecidableEq α] (d : α) (le : α → α → Bool) : ∀ xs ys : List α,
    Ob.lexAt (fun j => decide (xs.getD j d = ys.getD j d)) (fun j => le (xs.getD j d) (ys.getD j d)) (decide (xs.length ≤ ys.length)) 0 (min xs.length ys.length) = lexL le xs ys
  | [], ys => by
    have e : min ([] : List α).length ys.length = 0 := by simp
    rw [e, Ob.lexAt_zero]
    simp [lexL]
  | x :: xs, [] => by
    have e : min (x :: xs).length ([] : List α).length = 0 := by simp
    rw [e, Ob.lexAt_zero]
    simp [lexL]
  | x :: xs, y :: ys => by
    have e : min (x :: xs).length (y :: ys).length = min xs.length ys.length + 1 := by simp [Nat.succ_min_succ]
    have ih := lexAt_lexL d le xs ys
    rw [e, Ob.lexAt_succ]
    have e0 : decide ((x :: xs).getD 0 d = (y :: ys).getD 0 d) = decide (x = y) := rfl
    have e1 : le ((x :: xs).getD 0 d) ((y :: ys).getD 0 d) = le x y := rfl
    rw [e0, e1, lexAt_shift]
    have e2 : decide ((x :: xs).length ≤ (y :: ys).length) = decide (xs.length ≤ ys.length) := by simp
    rw [e2]
    show (if decide (x = y) = true then Ob.lexAt (fun j => decide (xs.getD j d = ys.getD j d)) (fun j => le (xs.getD j d) (ys.getD j d)) (decide (xs.length ≤ ys.length)) 0 (min xs.length ys.length) else le x y) = (if x = y then lexL le xs ys else le x y)
    rw [ih]
    by_cases h : x = y
    · rw [if_pos h, if_pos (decide_eq_true h)]
    · rw [if_neg h, if_neg (by rw [decide_eq_false h]; exact Bool.false_ne_true)]
theorem lexL_of {α : Type} [DecidableEq α] {lt le : α → α → Bool} (hle : ∀ x y, x ≠ y → lt y x = false → le x y = true) : ∀ xs ys : List α, lexB lt ys xs = false → lexL le xs ys = true
  | [], _, _ => rfl
  | x :: xs, [], h => by cases h
  | x :: xs, y :: ys, h => by
    have h : (if y = x then lexB lt ys xs else lt y x) = false := h
    show (if x = y then lexL le xs ys else le x y) = true
    by_cases e : x = y
    · rw [if_pos e]
      rw [if_pos e.symm] at h
      exact lexL_of hle xs ys h
    · rw [if_neg e]
      rw [if_neg (fun z => e z.symm)] at h
      exact hle x y e h
def le0 (a b : Int) : Bool := decide (a ≤ b)
abbrev le1 : List Int → List Int → Bool := lexL le0
abbrev le2 : List (List Int) → List (List Int) → Bool := lexL le1
theorem le0_of {x y : Int} (h : lt0 y x = false) : le0 x y = true := by
  have h : decide (y < x) = false := h
  have := of_decide_eq_false h
  exact decide_eq_true (by omega)
theorem le2_of {R R' : List (List Int)} (h : lt2 R' R = false) : le2 R R' = true := lexL_of (fun x y _ q => lexL_of (fun _ _ _ q2 => le0_of q2) x y q) R R' h
def rLeDT (K : PySem.W.Frag) : R2 := fun x y H Q => ∃ (a b : Addr) (as bs : List Addr) (R R' : List (List Int)), x = .ref a ∧ y = .ref b ∧ H a = some (.tup (vR as)) ∧ Rws tI H as R ∧ H b = some (.tup (vR bs)) ∧ Rws tI H bs R' ∧ lt2 R' R = false ∧ Q (.bl true) H
theorem op_leDT {X : Cx} (hu : X.A.units + 64 < cLine) : OpR X (compareOp .LtE) (rLeDT X.K) := by
  intro pins s σ H x y v u Q I rx ry h
  obtain ⟨a, b, as, bs, R, R', rfl, rfl, ha, hR, hb, hR', hlt, q⟩ := h
  cases rx
  cases ry
  obtain ⟨its, r1, p1, z1⟩ := I.tuple (SqT.of ha)
  obtain ⟨its2, r2, p2, z2⟩ := I.tuple (SqT.of hb)
  have l1 : its.length = R.length := by rw [← r1.length, vR_len, hR.len]
  have l2 : its2.length = R'.length := by rw [← r2.length, vR_len, hR'.len]
  have u1 : X.A.in1.units = X.A.units + 1 := rfl
  have at1 : ∀ (as : List Addr) (R : List (List Int)) (its : List Value), Rws tI H as R → Vals (vR as) its → ∀ j (hj : j < its.toArray.size), ∃ c, its.toArray[j] = Value.ref c ∧ tI H c (R.getD j []) := fun as R its hR r j hj => by
    have hj1 : j < its.length := by simpa using hj
    have hj2 : j < R.length := by rw [← hR.len, ← vR_len as, r.length]; exact hj1
    obtain ⟨c, hc, hcr⟩ := hR.get hj2
    obtain ⟨w, hw, rw'⟩ := r.get (vR_at hc)
    obtain rfl : w = Value.ref c := rw'
    refine ⟨c, ?_, hcr⟩
    have : its[j]? = some its[j] := by simp [hj1]
    rw [this] at hw
    simpa using Option.some.inj hw
  have inner : ∀ (c d : Addr) (r r' : List Int), tI H c r → tI H d r' → Ob.RcOp .LtE X.A.in1 s (.ref c) (.ref d) (le1 r r') := fun c d r r' hc hd => by
    obtain ⟨is1, q1, t1, _⟩ := I.tuple (SqT.of hc)
    obtain ⟨is2, q2, t2, _⟩ := I.tuple (SqT.of hd)
    have i1 : PyProof.Rows.IntsAre is1 r := Vals.ints q1
    have i2 : PyProof.Rows.IntsAre is2 r' := Vals.ints q2
    have e1 : is1.toArray.size = r.length := by rw [List.size_toArray]; exact i1.length
    have e2 : is2.toArray.size = r'.length := by rw [List.size_toArray]; exact i2.length
    have b1 : ∀ j (h1 : j < is1.toArray.size), ∃ t, is1.toArray[j] = .int (r.getD j 0) t := fun j h1 => PyProof.Rows.IntsAre.int_at i1 _ _ (by simp at h1; simp [h1])
    have b2 : ∀ j (h1 : j < is2.toArray.size), ∃ t, is2.toArray[j] = .int (r'.getD j 0) t := fun j h1 => PyProof.Rows.IntsAre.int_at i2 _ _ (by simp at h1; simp [h1])
    have Z := Ob.RcOp.tuples_le (A := X.A.in1) (s := s) (e := fun j => decide (r.getD j 0 = r'.getD j 0)) (r := fun j => le0 (r.getD j 0) (r'.getD j 0)) t1 t2 (by rw [u1]; omega) (fun j h1 h2 => by
      obtain ⟨t, et⟩ := b1 j h1
      obtain ⟨t', et'⟩ := b2 j h2
      rw [et, et']
      have z : (r.getD j 0 == r'.getD j 0) = decide (r.getD j 0 = r'.getD j 0) := by
        by_cases q : r.getD j 0 = r'.getD j 0
        · rw [decide_eq_true q]; exact beq_iff_eq.mpr q
        · rw [decide_eq_false q]; exact beq_eq_false_iff_ne.mpr q
      rw [← z]
      exact SeqAt.EqAt.int_int _ _ _ _) (fun j h1 h2 _ => by
      obtain ⟨t, et⟩ := b1 j h1
      obtain ⟨t', et'⟩ := b2 j h2
      rw [et, et']
      exact Ob.RcOp.le_int _ _ _ _)
    rw [e1, e2, lexAt_lexL 0 le0 r r'] at Z
    exact Z
  have Z := Ob.RcOp.tuples_le (A := X.A) (s := s) (e := fun j => decide (R.getD j [] = R'.getD j [])) (r := fun j => le1 (R.getD j []) (R'.getD j [])) p1 p2 (by omega) (fun j h1 h2 => by
    obtain ⟨c, ec, hc⟩ := at1 as R its hR r1 j h1
    obtain ⟨d, ed, hd⟩ := at1 bs R' its2 hR' r2 j h2
    rw [ec, ed, ← eqv_dI]
    obtain ⟨xs, q1⟩ := Dp.reads I (dI (R.getD j [])) (.ref c) (.ref c) (dp_tI hc) rfl
    obtain ⟨ys, q2⟩ := Dp.reads I (dI (R'.getD j [])) (.ref d) (.ref d) (dp_tI hd) rfl
    refine PySem.W.eqAt_alike _ _ _ _ _ _ xs ys q1 q2 (alike_dI _ _) ?_
    rw [dep_dI, dep_dI, u1]
    omega) (fun j h1 h2 _ => by
    obtain ⟨c, ec, hc⟩ := at1 as R its hR r1 j h1
    obtain ⟨d, ed, hd⟩ := at1 bs R' its2 hR' r2 j h2
    rw [ec, ed]
    exact inner c d _ _ hc hd)
  rw [List.size_toArray, List.size_toArray, l1, l2, lexAt_lexL [] le1 R R'] at Z
  have e : lexL le1 R R' = true := le2_of hlt
  rw [e] at Z
  have z : wpAny (model X.prog X.w) X.A (compareOp .LtE (.ref a) (.ref b)) (EP X pins σ Q) X.xe s := Z X.prog X.w X.xe (EP X pins σ Q) ⟨.bl _, H, I, rfl, q⟩
  exact z
end K7

namespace K7
open PySem PySem.Spec L2
theorem RowsOk.nil {bk : List Int} : RowsOk bk [] := ⟨fun j h => absurd h (Nat.not_lt_zero _), fun j h => absurd h (Nat.not_lt_zero _)⟩
theorem RowsOk.snoc {bk : List Int} {R : List (List Int)} {r : List Int} (h : RowsOk bk R) (hl : r.length = R.length) (hr : ∀ t ∈ r, 0 ≤ t ∧ t < (bk.length : Int)) : RowsOk bk (R ++ [r]) := by
  have e : ∀ j, j < (R ++ [r]).length → (j < R.length ∧ (R ++ [r]).getD j [] = R.getD j []) ∨ (j = R.length ∧ (R ++ [r]).getD j [] = r) := fun j hj => by
    rw [List.length_append, List.length_singleton] at hj
    by_cases h : j < R.length
    · exact .inl ⟨h, by simp [List.getElem?_append_left h]⟩
    · have : j = R.length := by omega
      subst this
      exact .inr ⟨rfl, by simp⟩
  refine ⟨fun j hj => ?_, fun j hj => ?_⟩
  · rcases e j hj with ⟨a, b⟩ | ⟨a, b⟩
    · rw [b]; exact h.len j a
    · rw [b, a]; exact hl
  · rcases e j hj with ⟨a, b⟩ | ⟨a, b⟩
    · rw [b]; exact h.rg j a
    · rw [b]; exact hr
theorem iteFe {c : Bool} {A B : Prop} (e : c = false) (h : B) : if c = true then A else B := by
  rw [e]; exact iteF h
theorem form_coM {C CT : Addr} {H : Hp} {q : Addr} {bk : List Int} {n : Nat} {M : Mx} {o : List Nat} (hbk : BkOk bk) (hM : Mat bk n M) (ho : Ord n n o) (hc : CompAt C CT H q bk (iN (List.range n)) (rowsO M o)) : CoM C CT H q bk n (fun a b => M (o.getD a 0) (o.getD b 0)) :=
  ⟨hbk, hM.ord ho, _, by rw [iN_len, List.length_range], by rw [rowsM_ord ho]; exact hc⟩
section
variable {P : Program} {w : World} {K : PySem.W.Frag} {mg : Str → Option Value} {base : Heap}
/-! ### _law_larger -/
/-- the package's defs and the law's own -/
structure Al (P : Program) (w : World) (K : PySem.W.Frag) (mg : Str → Option Value) (base : Heap) (C CT CM : Addr) : Prop where
  T : TxC K mg C
  TT : TxT K mg CT
  TI : TxI K C
  B : Blt mg
  O : ClsO P w K mg base C CT
  MM : Mks P w K mg base C CT
  lf : Cal P w K mg base (L2.CX P w) 6 "least_form" ["company"] (spLeastForm C CT CM)
  al : Cal P w K mg base CX0 6 "are_alike" ["one", "other"] (spAlike C CT)
  says : Cal P w K mg base CX0 1 "_law_says" ["_law_told", "_law_due"] spSays
  hand : Cal P w K mg base CX0 1 "_law_hand" ["_law_script"] (spHand (K := K))
  dr : Cal P w K mg base CX0 2 "_law_draw" ["_law_hand_here", "_law_many"] spDraw
  bk : Cal P w K mg base CX0 3 "_law_backs" ["_law_hand_here", "_law_many"] spBacks
  lab : Cal P w K mg base CX0 3 "_law_labels" ["_law_hand_here", "_law_many"] spLabels
  part : Cal P w K mg base CX0 1 "_law_part" ["_law_table", "_law_places"] spPart
  tup : Cal P w K mg base CX0 2 "_law_tuples" ["_law_table"] spTuples
  com : Cal P w K mg base CX0 6 "_law_company" nLCompany (spLCompany C CT)
  shuf : Cal P w K mg base CX0 3 "_law_shuffled" ["_law_hand_here", "_law_things"] spShuffled
  tab : Cal P w K mg base CX0 1 "_law_table_of" ["_law_backs_here", "_law_rows_here"] spTableOf
  least : Cal P w K mg base CX0 3 "_law_least" ["_law_table"] spLeast
  ref : Cal P w K mg base CX0 7 "_law_refused" ["_law_company_here"] (spRefused C CT)
def spLarger : Sp := fun vs H Q _ => ∃ (h c B : Addr) (bk : List Int), vs = [.ref h, .ref B] ∧ Hnd H h c ∧ lI H B bk ∧ BkOk bk ∧ ∀ H', Q (.bl true) H'
abbrev nLarger : List Str := ["_law_hand_here", "_law_backs_here", "_law_many", "_law_rows_here", "_law_company_here", "_law_table", "_law_order", "_law_other", "_law_form", "_law_i", "_law_j"]
theorem scLarger : FnScope nLarger ["_law_hand_here", "_law_backs_here"] (defScope sLarger) := ⟨rfl, rfl, rfl, by decide +kernel, rfl, by decide +kernel, by decide +kernel⟩
abbrev scLargerO : Scope := { kind := .function, names := [(".0", .local), ("_law_j", .local), ("range", .globalImplicit), ("_law_backs_here", .cell), ("_law_hand_here", .cell)], isGenerator := false, isCoroutine := false }
abbrev teDrawL (K : PySem.W.Frag) : TE := tCall spDraw [] E0 (tCons (tVar 0) (tCons (tCB (rLenOf K) (tCons (tVar 1) tNil)) tNil))
theorem ok_larger {f C CT CM : Addr} {fd : FuncData} (F : Fun K "_law_larger" "_law_larger" sLarger f fd) (Z : Al P w K mg base C CT CM) : FnOk P w K mg base CX0 8 f fd ["_law_hand_here", "_law_backs_here"] spLarger := by
  refine F.ok scLarger (fun vs H Q E h => ?_) (fun cdv A outer s H vs Q E hr h => ?_)
  · obtain ⟨h, c, B, bk, rfl, _⟩ := h
    rfl
  · obtain ⟨h, c, Bp, bk, rfl, hh, hB, hbk, k⟩ := h
    have B := Z.B
    have T := Z.T
    obtain ⟨fC, fdC, MC, FC, bC⟩ := Z.MM.c
    obtain ⟨fT, fdT, MT, FT, bT⟩ := Z.MM.t
    refine ⟨_, pss_cons (ps_set (i := 2) scLarger.nd rfl (Or.inl rfl) (pe_op op_add pe_int (pe_cal Z.dr hr pass0 (pa_cons (pv 0) (pa_cons pe_int pa_nil)))))
      (pss_cons (ps_setLc (i := 3) (own := [("_law_j", 10)]) (g := gName 10) (tt := tYes) (te := tLc (iRng1 (tCons (tVar 10) tNil)) (gName 9) tYes (teDrawL K) [9]) rfl scLarger.nd rfl rfl (sw_true rfl rfl rfl (by decide +kernel)) (pi_range1 rfl B.range (pa_cons (pv 2) pa_nil)) (blkOk_by (N := nLarger) (sc := defScope sLarger) (by decide +kernel)) (fun _ _ _ _ _ => pg_name (i := 10) scLarger.nd rfl (Or.inl rfl)) (fun _ _ _ _ _ => pts_nil)
          (fun _ _ _ _ _ => pe_lc (own := [("_law_i", 9)]) (g := gName 9) (tt := tYes) (te := teDrawL K) rfl scLarger.nd (pi_range1 rfl B.range (pa_cons (pv 10) pa_nil)) (blkOk_by (N := nLarger) (sc := scLargerO) (by decide +kernel)) (fun _ _ _ _ _ => pg_name (i := 9) scLarger.nd rfl (Or.inl rfl)) (fun _ _ _ _ _ => pts_nil)
            (fun _ _ _ _ _ => pe_cal Z.dr hr pass0 (pa_cons (pv 0) (pa_cons (pe_b (r := rLenOf K) call_len_seq B.len PySem.boot_len (pa_cons (pv 1) pa_nil)) pa_nil)))))
      (pss_cons (ps_set (i := 4) scLarger.nd rfl (Or.inl rfl) (pe_make MC FC (hr.mono (by decide)) rfl T.mgC bC .nil pass0 (pa_cons (pe_make MT FT (hr.mono (by decide)) rfl Z.TT.mgT bT .nil pass0 (pa_cons (pv 1) pa_nil)) (pa_cons (pe_cal Z.lab hr pass0 (pa_cons (pv 0) (pa_cons (pv 2) pa_nil))) (pa_cons (pv 3) pa_nil)))))
      (pss_cons (ps_if (pt_cmpR op_gt (pv 2) pe_int (nomark _)) (pss_one (ps_ret (pe_cmpR op_eq (pe_cal Z.ref hr pass0 (pa_cons (pv 4) pa_nil)) (pv 2) (nomark _)))) pss_nil)
      (pss_cons (ps_set (i := 5) scLarger.nd rfl (Or.inl rfl) (pe_cal Z.tab hr pass0 (pa_cons (pv 1) (pa_cons (pv 3) pa_nil))))
      (pss_cons (ps_set (i := 6) scLarger.nd rfl (Or.inl rfl) (pe_cal Z.shuf hr pass0 (pa_cons (pv 0) (pa_cons (pe_listRg rfl rfl B.list (prg_1 rfl B.range (pv 2))) pa_nil))))
      (pss_cons (ps_set (i := 7) scLarger.nd rfl (Or.inl rfl) (pe_cal Z.com hr pass0 (pa_cons (pv 1) (pa_cons (pe_cal Z.lab hr pass0 (pa_cons (pv 0) (pa_cons (pv 2) pa_nil))) (pa_cons (pe_cal Z.part hr pass0 (pa_cons (pv 5) (pa_cons (pv 6) pa_nil))) pa_nil)))))
      (pss_cons (ps_set (i := 8) scLarger.nd rfl (Or.inl rfl) (pe_cal (E := E0) Z.lf hr passL (pa_cons (pv 4) pa_nil)))
      (pss_cons (ps_if (PW.pt (pw_or (pt_cmpR (op_neO Z.O hr) (pv 8) (pe_cal (E := E0) Z.lf hr passL (pa_cons (pv 7) pa_nil)) (nomark _)) (pw_or (pt_not (pt_val (pe_cal Z.al hr pass0 (pa_cons (pv 8) (pa_cons (pv 4) pa_nil)))))
          (pw_or1 (pt_cmpR (op_neO Z.O hr) (pe_cal (E := E0) Z.lf hr passL (pa_cons (pv 8) pa_nil)) (pv 8) (nomark _)))))) pss_never pss_nil)
      (pss_one (ps_ret (pe_and (pe_cmpR (op_leDT hr.units) (pe_fld (pv 8) rfl) (pe_fld (pv 4) rfl) (nomark _)) (pe_and (pe_cmpR (op_leDT hr.units) (pe_fld (pv 8) rfl) (pe_fld (pv 7) rfl) (nomark _))
        (pe_one (pe_cmpR (op_eqD hr.units) (pe_t call_list_of B.list PyProof.Rows.boot_list (pa_cons (pe_fld (pv 8) rfl) pa_nil)) (pe_listRg rfl rfl B.list (prg_1 rfl B.range (pv 2))) (nomark _))))))))))))))), ?_⟩
    refine ⟨_, rfl, h, c, 4, rfl, hh, by decide, by decide, fun v H1 kp1 v0 v1 => ⟨_, _, rfl, rfl, ?_⟩⟩
    obtain ⟨n, hn⟩ : ∃ n : Nat, (6 : Int) + v = n := ⟨(6 + v).toNat, by omega⟩
    show gName 2 (V.int ((6 : Int) + v)) _ H1 _
    rw [hn]
    have n6 : 6 ≤ n := by omega
    have n9 : n ≤ 9 := by omega
    -- rows_here
    refine ⟨_, rfl, _, rfl, by omega, by omega, fun D hD => lc_range (n := ((n : Nat) : Int).toNat) (fun i H' => Kp h c H H' ∧ ∃ rs R, H' D = some (.lst (vR rs)) ∧ Rws lI H' rs R ∧ R.length = i ∧ RowsOk bk R ∧ ∀ x ∈ rs, x ≠ D) ⟨kp1.new hD, [], [], upd_same, Rws.nil, rfl, RowsOk.nil, fun b hb => by cases hb⟩ ?_ ?_⟩
    · rintro i H2 hi ⟨kp2, rs, R, hDr, hrs, hRl, hok, hfr⟩
      have hD0 := kp1.free hD
      have ei : (0 : Int) + (i : Int) = (i : Int) := by omega
      refine ⟨rfl, yesT ?_⟩
      rw [ei]
      refine ⟨_, rfl, _, rfl, by omega, by omega, fun D2 hD2 => lc_range (n := ((i : Nat) : Int).toNat) (fun j H' => Kp h c H2 H' ∧ ∃ r, H' D2 = some (.lst (vI r)) ∧ r.length = j ∧ ∀ t ∈ r, 0 ≤ t ∧ t < (bk.length : Int)) ⟨(Kp.refl kp2.h1).new hD2, [], upd_same, rfl, fun t ht => by cases ht⟩ ?_ ?_⟩
      · rintro j H3 hj ⟨kp3, r, hDr3, hrl, hrt⟩
        refine ⟨rfl, yesT ?_⟩
        have hB3 := kp3.lI (kp2.lI hB)
        refine ⟨_, rfl, _, rfl, _, _, rfl, .inl (SqL.of hB3), h, c, _, rfl, kp3.h1, ?_, ?_, fun z H4 kp4 z0 z1 => ?_⟩
        · rw [vI_len]; have := hbk.lo; omega
        · rw [vI_len]; have := hbk.hi; omega
        rw [vI_len] at z1
        have kp34 := kp3.trans kp4
        have hDr4 := kp4.lI (show lI H3 D2 r from hDr3)
        refine ⟨_, hDr4, by rw [vI_len, hrl]; exact size_lt (by omega), kp34.put hD2, r ++ [z], by rw [upd_same, vI_snoc], by rw [List.length_append, hrl]; rfl, fun t ht => ?_⟩
        rcases List.mem_append.mp ht with ht | ht
        · exact hrt t ht
        · rw [List.mem_singleton] at ht; subst ht
          exact ⟨z0, z1⟩
      · rintro H3 ⟨kp3, r, hDr3, hrl, hrt⟩
        have hDr4 := kp3.lR hDr
        have n2 : D2 ≠ D := fun e => by rw [e, hDr] at hD2; cases hD2
        refine ⟨_, hDr4, by rw [vR_len, hrs.len, hRl]; exact size_lt (by omega), (kp2.trans kp3).put hD0, rs ++ [D2], R ++ [r], by rw [upd_same, ← vR_snoc], ?_, by rw [List.length_append, hRl]; rfl, hok.snoc (by omega) hrt, ?_⟩
        · refine ((kp3.rwsL hrs).updL hfr).snoc ?_
          show upd H3 D _ D2 = _
          rw [upd_ne n2]; exact hDr3
        · intro x hx
          rcases List.mem_append.mp hx with hx | hx
          · exact hfr x hx
          · rw [List.mem_singleton] at hx; subst hx
            exact n2
    rintro H2 ⟨kp2, rs, Rw, hDr, hrs, hRl, hok, hfr⟩
    have en : ((n : Nat) : Int).toNat = n := by omega
    rw [en] at hRl
    have hM : Mat bk n (matOf bk Rw) := by rw [← hRl]; exact matOf_ok hbk hok
    have hRM : rowsM (matOf bk Rw) n = Rw := by rw [← hRl]; exact matOf_rows hok
    generalize hMe : matOf bk Rw = M at hM hRM
    -- company
    refine ⟨_, rfl, fun x dx hx hdx hne => ?_⟩
    have s3 : Same H2 (upd (upd H2 dx (.own x)) x (.ins CT dx [])) := Same.put (Same.new (Same.refl H2) hdx) hx
    refine ⟨x, dx, Bp, bk, rfl, upd_same, s3 _ _ (kp2.lI hB), hbk, fun H3 b3 hT3 => ⟨rfl, ?_⟩⟩
    have s23 : Same H2 H3 := fun a o e => b3 a o (ne_of_none e hx) (s3 a o e)
    have kp3 := kp2.same s23
    refine ⟨_, rfl, _, rfl, h, c, n, rfl, kp3.h1, by omega, by omega, fun H4 G g kp4 hG0 hG hlab hgl => ?_⟩
    have kp24 := kp3.trans kp4
    refine ⟨_, rfl, fun y dy hy hdy hne2 => ?_⟩
    have s4 : Same H4 (upd (upd H4 dy (.own y)) y (.ins C dy [])) := Same.put (Same.new (Same.refl H4) hdy) hy
    have hrs3 : Rws lI H3 rs Rw := hrs.same (lI_same s23)
    refine ⟨y, dy, x, G, D, bk, g, Rw, rs, rfl, upd_same, (kp4.ties hT3).same s4, s4 _ _ hG, s4 _ _ (kp4.lR (s23 _ _ hDr)), ((kp4.rwsL hrs3).same (lI_same s4)).imp fun _ _ _ q => .inl q, by omega, by omega, hlab, hok, fun H5 b5 hc => ⟨rfl, ?_⟩⟩
    have s45 : Same H4 H5 := fun a o e => b5 a o (ne_of_none e hy) (s4 a o e)
    have kp5 := kp24.same s45
    have hco : CoM C CT H5 y bk n M := ⟨hbk, hM, g, by omega, by rw [hRM]; exact hc⟩
    refine ⟨_, rfl, _, _, rfl, rfl, _, rfl, ?_⟩
    by_cases h7 : (7 : Int) < (n : Int)
    · rw [decide_eq_true h7]
      refine iteT ⟨_, rfl, y, bk, n, M, rfl, hco, by omega, by omega, fun H6 s6 => ?_⟩
      refine ⟨_, rfl, rfl, ?_⟩
      rw [decide_eq_true rfl]
      exact k _
    rw [decide_eq_false h7]
    have n7 : n ≤ 7 := by omega
    refine iteF ?_
    -- table
    refine ⟨_, rfl, _, rfl, Bp, D, bk, rs, Rw, rfl, kp5.lI hB, hbk, s45 _ _ (kp4.lR (s23 _ _ hDr)), (kp4.rwsL hrs3).same (lI_same s45), hok, by omega, fun H6 Tp trs s6 hT0 hTb => ?_⟩
    rw [hRl, hMe] at hTb
    have kp6 := kp5.same s6
    -- order
    refine ⟨_, rfl, _, rfl, _, rfl, .of_le (by decide) (by omega) (by decide) (by omega), fun gl hgl => ?_⟩
    rw [rgV_range]
    have s7 : Same H6 (upd H6 gl (.lst (vI (iN (List.range n))))) := Same.upd_new hgl
    have gl7 : lI (upd H6 gl (.lst (vI (iN (List.range n))))) gl (iN (List.range n)) := upd_same
    generalize upd H6 gl (.lst (vI (iN (List.range n)))) = H7 at s7 gl7
    have kp7 := kp6.same s7
    refine ⟨h, c, gl, n, rfl, kp7.h1, gl7, n9, fun H8 Op o kp8 hO0 hO ho => ?_⟩
    have kp78 := kp7.trans kp8
    -- other
    refine ⟨_, rfl, _, rfl, _, rfl, h, c, n, rfl, kp78.h1, by omega, by omega, fun H9 G2 g2 kp9 hG20 hG2 hlab2 hgl2 => ?_⟩
    have kp89 := kp8.trans kp9
    have kp79 := kp78.trans kp9
    refine ⟨_, rfl, _, rfl, Tp, Op, n, M, trs, o, rfl, kp89.tbA (hTb.same s7), kp9.lI hO, ho, n9, fun H10 Pt prs s10 hP0 hPt hPn hPf => ?_⟩
    have kp10 := kp79.same s10
    refine ⟨Bp, G2, Pt, bk, g2, n, _, prs, rfl, kp10.lI hB, hbk, s10 _ _ hG2, hlab2, by omega, hPt, hM.ord ho, n9, fun H11 p2 s11 hc2 => ?_⟩
    have hco11 : CoM C CT H11 y bk n M := ((kp89.coM (hco.same (s6.trans s7))).same s10).same s11
    have hco2 : CoM C CT H11 p2 bk n (fun a b => M (o.getD a 0) (o.getD b 0)) := ⟨hbk, hM.ord ho, g2, by omega, hc2⟩
    -- form
    refine ⟨_, rfl, y, bk, n, M, rfl, hco11, by omega, fun _ H12 q1 o1 s12 ho1 hl1 hc1 => ?_, fun z => absurd z (by omega)⟩
    have hf1 := form_coM hbk hM ho1 hc1
    -- form != least_form(other)
    refine ⟨_, rfl, _, rfl, p2, bk, n, _, rfl, hco2.same s12, by omega, fun _ H13 q2 o2 s13 ho2 hl2 hcc2 => ?_, fun z => absurd z (by omega)⟩
    have eR : rowsO (fun a b => M (o.getD a 0) (o.getD b 0)) o2 = rowsO M o1 := (alike_iff (hM.ord ho).anti hM.anti hl2 hl1).mp ⟨o, like_ord ho⟩
    rw [eR] at hcc2
    refine ⟨q1, q2, bk, bk, _, _, _, _, rfl, rfl, hc1.same s13, hcc2, _, rfl, ?_⟩
    refine iteFe (by simp) ?_
    -- not are_alike(form, company)
    refine ⟨_, rfl, _, rfl, q1, y, bk, n, _, M, rfl, hf1.same s13, hco11.same (s12.trans s13), n7, fun b H14 s14 hb => ?_⟩
    obtain rfl : b = true := hb.mpr ⟨o1, like_ord ho1⟩
    refine ⟨_, rfl, iteF ?_⟩
    have s134 := s13.trans s14
    -- least_form(form) != form
    refine ⟨_, rfl, q1, bk, n, _, rfl, hf1.same s134, by omega, fun _ H15 q3 o3 s15 ho3 hl3 hc3 => ?_, fun z => absurd z (by omega)⟩
    have eR3 : rowsO (fun a b => M (o1.getD a 0) (o1.getD b 0)) o3 = rowsO M o1 := hl3.unique (least_form hM.anti ho1 hl1)
    rw [eR3] at hc3
    have s1215 := s134.trans s15
    refine ⟨_, rfl, q3, q1, bk, bk, _, _, _, _, rfl, rfl, hc3, hc1.same s1215, _, rfl, ?_⟩
    refine iteFe (by simp) ?_
    -- the answer
    have hcA := hc1.same s1215
    have hcB : CompAt C CT H15 y bk g Rw := (((((kp89.comp ((hc.same s6).same s7)).same s10).same s11).same s12).same s1215)
    have hcC : CompAt C CT H15 p2 bk g2 (rowsO M o) := by
      rw [← rowsM_ord ho]
      exact (hc2.same s12).same s1215
    obtain ⟨dxA, ttA, gtA, rtA, rsA, a1, a2, a3, a4, a5⟩ := hcA
    obtain ⟨dxB, ttB, gtB, rtB, rsB, b1, b2, b3', b4, b5'⟩ := hcB
    obtain ⟨dxC, ttC, gtC, rtC, rsC, c1, c2, c3, c4, c5⟩ := hcC
    have ltB : lt2 Rw (rowsO M o1) = false := by
      have := hl1.least (List.range n) (Ord.range n)
      rw [rowsO_range, hRM] at this
      exact this
    refine ⟨_, rfl, q1, C, dxA, _, _, rfl, a1, T.cl, T.nR, cfs_rows _ _ _, _, rfl, y, C, dxB, _, _, rfl, b1, T.cl, T.nR, cfs_rows _ _ _, rtA, rtB, rsA, rsB, _, _, rfl, rfl, a4, a5, b4, b5', ltB, _, rfl, iteT ?_⟩
    refine ⟨_, rfl, q1, C, dxA, _, _, rfl, a1, T.cl, T.nR, cfs_rows _ _ _, _, rfl, p2, C, dxC, _, _, rfl, c1, T.cl, T.nR, cfs_rows _ _ _, rtA, rtC, rsA, rsC, _, _, rfl, rfl, a4, a5, c4, c5, hl1.least o ho, _, rfl, iteT ?_⟩
    refine ⟨_, rfl, q1, C, dxA, _, _, rfl, a1, T.cl, T.nG, cfs_guests _ _ _, gtA, _, rfl, .inr (SqT.of a3), fun l hl => ?_⟩
    refine ⟨_, rfl, _, rfl, .of_le (by decide) (by omega) (by decide) (by omega), fun l2 hl2 => ?_⟩
    rw [rgV_range]
    have nl : l ≠ l2 := ne_of_none upd_same hl2
    have q1' : lI (upd (upd H15 l (.lst (vI (iN (List.range n))))) l2 (.lst (vI (iN (List.range n))))) l (iN (List.range n)) := by
      show upd _ l2 _ l = _
      rw [upd_ne nl, upd_same]
    refine ⟨dL (iN (List.range n)), dL (iN (List.range n)), dp_lI q1', dp_lI (show lI _ l2 _ from upd_same), sh_dL _, sh_dL _, ?_⟩
    rw [eqv_dL, decide_eq_true rfl]
    exact k _
end
end K7

namespace K7
def upM (M : Mx) (j i : Nat) (t u : Int) : Mx := fun a b => if a = j ∧ b = i then t else if a = i ∧ b = j then u else M a b
theorem tbl_set {M : Mx} {n i j : Nat} {t u : Int} (hi : i < j) (hj : j < n) :
    ((tblM M n).set j (((List.range n).map (M j)).set i t)).set i (((List.range n).map (M i)).set j u) = tblM (upM M j i t u) n := by
  unfold tblM
  apply List.ext_getElem
  · simp
  · intro k h1 h2
    have hk : k < n := by simpa using h2
    rw [List.getElem_set]
    by_cases e1 : i = k
    · subst e1
      rw [if_pos rfl]
      apply List.ext_getElem
      · simp
      · intro a g1 g2
        have ha : a < n := by simpa using g2
        rw [List.getElem_set]
        by_cases e2 : j = a
        · subst e2
          have : ¬ (i = j ∧ j = i) := by omega
          simp [upM, this]
        · have q1 : ¬ (i = j ∧ a = i) := by omega
          have q2 : ¬ (i = i ∧ a = j) := by omega
          rw [if_neg e2]
          simp only [List.getElem_map, List.getElem_range]
          unfold upM
          rw [if_neg q1, if_neg q2]
    · rw [if_neg e1, List.getElem_set]
      by_cases e3 : j = k
      · subst e3
        rw [if_pos rfl]
        apply List.ext_getElem
        · simp
        · intro a g1 g2
          have ha : a < n := by simpa using g2
          rw [List.getElem_set]
          by_cases e2 : i = a
          · subst e2
            simp [upM]
          · have q1 : ¬ (j = j ∧ a = i) := by omega
            have q2 : ¬ (j = i ∧ a = j) := by omega
            rw [if_neg e2]
            simp only [List.getElem_map, List.getElem_range]
            unfold upM
            rw [if_neg q1, if_neg q2]
      · rw [if_neg e3]
        simp only [List.getElem_map, List.getElem_range]
        refine List.map_congr_left fun a _ => ?_
        unfold upM
        rw [if_neg (by omega), if_neg (by omega)]
open PySem PySem.Spec L2
theorem upM_ok {bk : List Int} {n : Nat} {M : Mx} {i j : Nat} {t : Int} (hb : BkOk bk) (h : Mat bk n M) (hij : i < j) (hj : j < n) (h0 : 0 ≤ t) (h1 : t < (bk.length : Int)) : Mat bk n (upM M j i t (bkf bk t)) := by
  have hbt := hb.back h0 h1
  refine ⟨fun a b ha hb' hne => ?_, fun a b ha hb' hne => ?_⟩
  · unfold upM
    split
    · exact ⟨h0, h1⟩
    · split
      · exact hbt
      · exact h.rg a b ha hb' hne
  · unfold upM
    by_cases e1 : a = j ∧ b = i
    · rw [if_pos e1, if_neg (by omega), if_pos ⟨e1.2, e1.1⟩, hb.bb h0 h1]
    · rw [if_neg e1]
      by_cases e2 : a = i ∧ b = j
      · rw [if_pos e2, if_pos ⟨e2.2, e2.1⟩]
      · rw [if_neg e2, if_neg (fun z => e2 ⟨z.2, z.1⟩), if_neg (fun z => e1 ⟨z.2, z.1⟩)]
        exact h.anti a b ha hb' hne
theorem Rws.updRow {H : Hp} {rs : List Addr} {R : List (List Int)} (h : Rws lI H rs R) (nd : rs.Nodup) {j : Nat} {b : Addr} (hb : rs[j]? = Option.some b) (r' : List Int) : Rws lI (upd H b (.lst (vI r'))) rs (R.set j r') := by
  refine ⟨by rw [List.length_set]; exact h.len, fun i c r h1 h2 => ?_⟩
  have hj : j < R.length := by rw [← h.len]; exact (List.getElem?_eq_some_iff.mp hb).1
  rw [List.getElem?_set] at h2
  by_cases e : j = i
  · subst e
    rw [if_pos rfl, if_pos hj] at h2
    cases h2
    rw [hb] at h1
    cases h1
    exact upd_same
  · rw [if_neg e] at h2
    have hne : c ≠ b := fun z => by
      subst z
      have i1 := List.getElem?_eq_some_iff.mp h1
      have i2 := List.getElem?_eq_some_iff.mp hb
      obtain ⟨g1, q1⟩ := i1
      obtain ⟨g2, q2⟩ := i2
      exact e ((List.getElem_inj nd).mp (q2.trans q1.symm))
    show upd H b _ c = _
    rw [upd_ne hne]
    exact h.at_ i c r h1 h2
theorem vI_set (ns : List Int) (j : Nat) (v : Int) : (vI ns).set j (.int v) = vI (ns.set j v) := by rw [vI, vI, List.map_set]
/-! ### the two companies and their least forms -/
def FormAt (C CT : Addr) (H : Hp) (q : Addr) (bk : List Int) (n : Nat) (M : Mx) : Prop := ∃ o, Ord n n o ∧ IsLeast M n (rowsO M o) ∧ CompAt C CT H q bk (iN (List.range n)) (rowsO M o)
theorem FormAt.same {C CT : Addr} {H H' : Hp} {q : Addr} {bk : List Int} {n : Nat} {M : Mx} (h : FormAt C CT H q bk n M) (s : Same H H') : FormAt C CT H' q bk n M := by
  obtain ⟨o, h1, h2, h3⟩ := h
  exact ⟨o, h1, h2, h3.same s⟩
theorem CompAt.putL {C CT : Addr} {H : Hp} {p F : Addr} {bk g : List Int} {R : List (List Int)} {xs : List V} {o : HO} (h : CompAt C CT H p bk g R) (hF : H F = some (.lst xs)) : CompAt C CT (upd H F o) p bk g R := by
  obtain ⟨dx, tt, gt, rt, rs, h1, ⟨td, bt, h2, h3⟩, h4, h5, h6⟩ := h
  have k : ∀ (a : Addr) (u : HO), H a = some u → (∀ ys, u ≠ .lst ys) → upd H F o a = some u := fun a u e n => by
    rw [upd_ne (ne_of e hF (n xs))]; exact e
  exact ⟨dx, tt, gt, rt, rs, k _ _ h1 (fun _ z => by cases z), ⟨td, bt, k _ _ h2 (fun _ z => by cases z), k _ _ h3 (fun _ z => by cases z)⟩, k _ _ h4 (fun _ z => by cases z), k _ _ h5 (fun _ z => by cases z), h6.same (tI_put hF)⟩
structure Fms (C CT : Addr) (H : Hp) (bk : List Int) (n : Nat) (qs : List Addr) (Ms : List Mx) : Prop where
  len : qs.length = Ms.length
  at_ : ∀ (k : Nat) (q : Addr) (M : Mx), qs[k]? = some q → Ms[k]? = some M → FormAt C CT H q bk n M
theorem Fms.nil {C CT : Addr} {H : Hp} {bk : List Int} {n : Nat} : Fms C CT H bk n [] [] := ⟨rfl, fun k q M h => by simp at h⟩
theorem Fms.imp {C CT : Addr} {H H' : Hp} {bk : List Int} {n : Nat} {qs : List Addr} {Ms : List Mx} (h : Fms C CT H bk n qs Ms) (f : ∀ q M, FormAt C CT H q bk n M → FormAt C CT H' q bk n M) : Fms C CT H' bk n qs Ms := ⟨h.len, fun k q M h1 h2 => f q M (h.at_ k q M h1 h2)⟩
theorem Fms.snoc {C CT : Addr} {H : Hp} {bk : List Int} {n : Nat} {qs : List Addr} {Ms : List Mx} {q : Addr} {M : Mx} (h : Fms C CT H bk n qs Ms) (f : FormAt C CT H q bk n M) : Fms C CT H bk n (qs ++ [q]) (Ms ++ [M]) := by
  refine ⟨by rw [List.length_append, List.length_append, h.len]; rfl, fun k c N h1 h2 => ?_⟩
  by_cases hk : k < qs.length
  · rw [List.getElem?_append_left hk] at h1
    rw [List.getElem?_append_left (by rw [← h.len]; exact hk)] at h2
    exact h.at_ k c N h1 h2
  · have e : k = qs.length := by
      have := (List.getElem?_eq_some_iff.mp h1).1
      rw [List.length_append, List.length_singleton] at this
      omega
    subst e
    have e1 : (qs ++ [q])[qs.length]? = some q := by simp
    have e2 : (Ms ++ [M])[qs.length]? = some M := by rw [h.len]; simp
    rw [e1] at h1; rw [e2] at h2
    cases h1; cases h2
    exact f
end K7

namespace K7
open PySem PySem.Spec L2
theorem gName_seq {i : Nat} {x : V} {σ : L2.St} {H : Hp} {c : TT} {t1 t2 u : TS} {D : Ends} {rt : V → Hp → Prop} {bk ct : L2.St → Hp → Prop} (h : tSeq (tIfS c t1 t2) u D (σ.set i (some x)) H) : gName i x σ H (Ends.nx { nx := tSeq (tIfS c t1 t2) u D, rt := rt, bk := bk, ct := ct }) := h
section
variable {P : Program} {w : World} {K : PySem.W.Frag} {mg : Str → Option Value} {base : Heap}
/-! ### law -/
def spLaw : Sp := fun vs H Q _ => ∃ (a : Addr) (ns : List Int), vs = [.ref a] ∧ SqL K H a (vI ns) ∧ ns.length ≤ 1000 ∧ ∀ H', Q (.bl true) H'
abbrev nLaw : List Str := ["_law_script", "_law_hand_here", "_law_backs_here", "_law_many", "_law_few", "_law_j", "_law_i", "_law_table", "_law_other", "_law_tie", "_law_one", "_law_two", "_law_companies", "_law_forms", "_law_company_here", "_law_rows_here", "_law_form"]
theorem scLaw : FnScope nLaw ["_law_script"] (defScope sLaw) := ⟨rfl, rfl, rfl, by decide +kernel, rfl, by decide +kernel, by decide +kernel⟩
abbrev scLawO : Scope := { kind := .function, names := [(".0", .local), ("_law_j", .local), ("range", .globalImplicit), ("_law_few", .cell), ("_law_hand_here", .cell)], isGenerator := false, isCoroutine := false }
abbrev teDrawF : TE := tCall spDraw [] E0 (tCons (tVar 1) (tCons (tVar 4) tNil))
theorem ok_law {f C CT CM : Addr} {fd : FuncData} (F : Fun K "law" "law" sLaw f fd) (Z : Al P w K mg base C CT CM) (cG : Cal P w K mg base CX0 8 "_law_larger" ["_law_hand_here", "_law_backs_here"] spLarger) : FnOk P w K mg base CX0 9 f fd ["_law_script"] (spLaw (K := K)) := by
  refine F.ok scLaw (fun vs H Q E h => ?_) (fun cdv A outer s H vs Q E hr h => ?_)
  · obtain ⟨a, ns, rfl, _⟩ := h
    rfl
  · obtain ⟨a, ns, rfl, ha, hnl, k⟩ := h
    have B := Z.B
    have T := Z.T
    have TT := Z.TT
    refine ⟨_, pss_cons (ps_set (i := 1) scLaw.nd rfl (Or.inr rfl) (pe_cal Z.hand hr pass0 (pa_cons (pv 0) pa_nil)))
      (pss_cons (ps_set (i := 2) scLaw.nd rfl (Or.inl rfl) (pe_cal Z.bk hr pass0 (pa_cons (pv 1) (pa_cons (pe_op op_add pe_int (pe_cal Z.dr hr pass0 (pa_cons (pv 1) (pa_cons pe_int pa_nil)))) pa_nil))))
      (pss_cons (ps_set (i := 3) scLaw.nd rfl (Or.inl rfl) (pe_cal Z.dr hr pass0 (pa_cons (pv 1) (pa_cons pe_int pa_nil))))
      (pss_cons (ps_set (i := 4) scLaw.nd rfl (Or.inr rfl) (pe_op op_add pe_int (pe_cal Z.dr hr pass0 (pa_cons (pv 1) (pa_cons (pe_b call_len_seq B.len PySem.boot_len (pa_cons (pv 2) pa_nil)) pa_nil)))))
      (pss_cons (ps_set (i := 7) scLaw.nd rfl (Or.inl rfl) (pe_cal Z.tab hr pass0 (pa_cons (pv 2) (pa_cons
        (pe_lc (own := [("_law_j", 5)]) (g := gName 5) (tt := tYes) (te := tLc (iRng1 (tCons (tVar 5) tNil)) (gName 6) tYes teDrawF [6]) rfl scLaw.nd (pi_range1 rfl B.range (pa_cons (pv 3) pa_nil)) (blkOk_by (N := nLaw) (sc := defScope sLaw) (by decide +kernel)) (fun _ _ _ _ _ => pg_name (i := 5) scLaw.nd rfl (Or.inl rfl)) (fun _ _ _ _ _ => pts_nil)
          (fun _ _ _ _ _ => pe_lc (own := [("_law_i", 6)]) (g := gName 6) (tt := tYes) (te := teDrawF) rfl scLaw.nd (pi_range1 rfl B.range (pa_cons (pv 5) pa_nil)) (blkOk_by (N := nLaw) (sc := scLawO) (by decide +kernel)) (fun _ _ _ _ _ => pg_name (i := 6) scLaw.nd rfl (Or.inl rfl)) (fun _ _ _ _ _ => pts_nil)
            (fun _ _ _ _ _ => pe_cal Z.dr hr pass0 (pa_cons (pv 1) (pa_cons (pv 4) pa_nil))))) pa_nil))))
      (pss_cons (ps_set (i := 8) scLaw.nd rfl (Or.inl rfl) (pe_cal Z.part hr pass0 (pa_cons (pv 7) (pa_cons (pe_cal Z.shuf hr pass0 (pa_cons (pv 1) (pa_cons (pe_listRg rfl rfl B.list (prg_1 rfl B.range (pv 3))) pa_nil))) pa_nil))))
      (pss_cons (ps_if (PW.pt (pw_and (pt_cmpR op_gt (pv 3) pe_int (nomark _)) (pw_and1 (pt_cmpR op_eq (pe_cal Z.dr hr pass0 (pa_cons (pv 1) (pa_cons pe_int pa_nil))) pe_int (nomark _)))))
        (pss_cons (ps_set (i := 5) scLaw.nd rfl (Or.inl rfl) (pe_op op_add pe_int (pe_cal Z.dr hr pass0 (pa_cons (pv 1) (pa_cons (pe_op op_sub (pv 3) pe_int) pa_nil)))))
        (pss_cons (ps_set (i := 6) scLaw.nd rfl (Or.inl rfl) (pe_cal Z.dr hr pass0 (pa_cons (pv 1) (pa_cons (pv 5) pa_nil))))
        (pss_cons (ps_set (i := 9) scLaw.nd rfl (Or.inl rfl) (pe_cal Z.dr hr pass0 (pa_cons (pv 1) (pa_cons (pe_b call_len_seq B.len PySem.boot_len (pa_cons (pv 2) pa_nil)) pa_nil))))
        (pss_cons (ps_set (i := 10) scLaw.nd rfl (Or.inl rfl) (pe_ix ix_list (pv 8) (pv 5) (fun _ _ => rfl)))
        (pss_cons (ps_asg (pv 9) (pg_sub (pv 10) (pv 6) set_list))
        (pss_cons (ps_set (i := 11) scLaw.nd rfl (Or.inl rfl) (pe_ix ix_list (pv 8) (pv 6) (fun _ _ => rfl)))
        (pss_one (ps_asg (pe_ix ix_list (pv 2) (pv 9) (fun _ _ => rfl)) (pg_sub (pv 11) (pv 5) set_list))))))))) pss_nil)
      (pss_cons (ps_set (i := 12) scLaw.nd rfl (Or.inl rfl) (pe_lst (pa_cons (pe_cal Z.com hr pass0 (pa_cons (pv 2) (pa_cons (pe_cal Z.lab hr pass0 (pa_cons (pv 1) (pa_cons (pv 3) pa_nil))) (pa_cons (pv 7) pa_nil)))) (pa_cons (pe_cal Z.com hr pass0 (pa_cons (pv 2) (pa_cons (pe_cal Z.lab hr pass0 (pa_cons (pv 1) (pa_cons (pv 3) pa_nil))) (pa_cons (pv 8) pa_nil)))) pa_nil))))
      (pss_cons (ps_set (i := 13) scLaw.nd rfl (Or.inl rfl) (pe_lst pa_nil))
      (pss_cons (ps_for PassesOwn.never rfl (pi_list (pe_lst (pa_cons (pe_tup (pa_cons (pe_ix ix_list (pv 12) pe_int (fun _ _ => rfl)) (pa_cons (pv 7) pa_nil))) (pa_cons (pe_tup (pa_cons (pe_ix ix_list (pv 12) pe_int (fun _ _ => rfl)) (pa_cons (pv 8) pa_nil))) pa_nil)))) (pg_tup rfl (pgs_cons (pg_name (i := 14) scLaw.nd rfl (Or.inl rfl)) (pgs_cons (pg_name (i := 15) scLaw.nd rfl (Or.inl rfl)) pgs_nil)))
        (pss_cons (ps_set (i := 16) scLaw.nd rfl (Or.inl rfl) (pe_cal (E := E0) Z.lf hr passL (pa_cons (pv 14) pa_nil)))
        (pss_cons (ps_if (PW.pt (pw_or (pt_not (pt_val (pe_b call_isi B.isinstance PyProof.Rows.boot_isinstance (pa_cons (pv 16) (pa_cons (pe_glob (v := .ref C) (by rfl) T.mgC rfl) pa_nil))))) (pw_or (pt_cmpR (op_neD hr.units) (pe_t call_list_of B.list PyProof.Rows.boot_list (pa_cons (pe_fld (pv 16) rfl) pa_nil)) (pe_listRg rfl rfl B.list (prg_1 rfl B.range (pv 3))) (nomark _))
          (pw_or1 (pt_cmpR (op_neD hr.units) (pe_t call_list_of B.list PyProof.Rows.boot_list (pa_cons (pe_fld (pe_fld (pv 16) rfl) rfl) pa_nil)) (pv 2) (nomark _)))))) pss_never pss_nil)
        (pss_cons (ps_if (PW.pt (pw_or (pt_cmpR (op_neD hr.units) (pe_fld (pv 16) rfl) (pe_cal Z.least hr pass0 (pa_cons (pv 15) pa_nil)) (nomark _))
          (pw_or1 (pt_cmpR (op_neD hr.units) (pe_t call_list_of B.list PyProof.Rows.boot_list (pa_cons (pe_fld (pv 14) rfl) pa_nil)) (pe_t call_list_of B.list PyProof.Rows.boot_list (pa_cons (pe_cal Z.tup hr pass0 (pa_cons (pv 15) pa_nil)) pa_nil)) (nomark _))))) pss_never pss_nil)
        (pss_cons (ps_if (PW.pt (pw_or (pt_not (pt_val (pe_cal Z.al hr pass0 (pa_cons (pv 16) (pa_cons (pv 14) pa_nil)))))
          (pw_or1 (pt_cmpR (op_neO Z.O hr) (pe_cal (E := E0) Z.lf hr passL (pa_cons (pv 16) pa_nil)) (pv 16) (nomark _))))) pss_never pss_nil)
        (pss_one (ps_expr (pe_bm PySem.F.plainAttrs_list PySem.F.slot_list_append PySem.F.type_list_append mt_append (pv 13) (pa_cons (pv 16) pa_nil)))))))))
      (pss_cons (ps_if (pt_not (pt_val (pe_cal Z.says hr pass0 (pa_cons (pe_cal Z.al hr pass0 (pa_cons (pe_ix ix_list (pv 12) pe_int (fun _ _ => rfl)) (pa_cons (pe_ix ix_list (pv 12) pe_int (fun _ _ => rfl)) pa_nil))) (pa_cons (pe_cmpR (op_eqO Z.O hr) (pe_ix ix_list (pv 13) pe_int (fun _ _ => rfl)) (pe_ix ix_list (pv 13) pe_int (fun _ _ => rfl)) (nomark _)) pa_nil))))) pss_never pss_nil)
      (pss_one (ps_ret (pe_cal cG hr pass0 (pa_cons (pv 1) (pa_cons (pv 2) pa_nil))))))))))))))), ?_⟩
    -- hand, backs, many, few
    refine ⟨_, rfl, a, ns, rfl, ha, hnl, fun H0 h c s0 hh => ?_⟩
    refine ⟨_, rfl, _, rfl, h, c, 3, rfl, hh, by decide, by decide, fun v1 H1 kp1 a0 a1 => ⟨_, _, rfl, rfl, h, c, 2 + v1, rfl, kp1.h1, by omega, by omega, fun H2 Bp bk kp2' hB0 hB hbk hbl => ?_⟩⟩
    have kp2 := kp1.trans kp2'
    refine ⟨_, rfl, h, c, 6, rfl, kp2.h1, by decide, by decide, fun v2 H3 kp3' b0 b1 => ?_⟩
    obtain ⟨n, rfl⟩ : ∃ n : Nat, v2 = n := ⟨v2.toNat, by omega⟩
    have n5 : n ≤ 5 := by omega
    have kp3 := kp2.trans kp3'
    have hB3 := kp3'.lI hB
    refine ⟨_, rfl, _, rfl, _, _, rfl, .inl (SqL.of hB3), h, c, _, rfl, kp3.h1, ?_, ?_, fun v3 H4 kp4' c0 c1 => ⟨_, _, rfl, rfl, ?_⟩⟩
    · rw [vI_len]; have := hbk.lo; omega
    · rw [vI_len]; have := hbk.hi; omega
    rw [vI_len] at c1
    show gName 4 (V.int ((1 : Int) + v3)) _ H4 _
    obtain ⟨fw, hfw⟩ : ∃ fw : Int, (1 : Int) + v3 = fw := ⟨_, rfl⟩
    rw [hfw]
    have f0 : 1 ≤ fw := by omega
    have f1 : fw ≤ bk.length := by omega
    have kp4 := kp3.trans kp4'
    have hB4 := kp4'.lI hB3
    have bl4 := hbk.hi
    have bl2 := hbk.lo
    -- table
    refine ⟨_, rfl, _, rfl, _, rfl, by omega, by omega, fun D hD => lc_range (n := ((n : Nat) : Int).toNat) (fun i H' => Kp h c H4 H' ∧ ∃ rs R, H' D = some (.lst (vR rs)) ∧ Rws lI H' rs R ∧ R.length = i ∧ RowsOk bk R ∧ ∀ x ∈ rs, x ≠ D) ⟨(Kp.refl kp4.h1).new hD, [], [], upd_same, Rws.nil, rfl, RowsOk.nil, fun b hb => by cases hb⟩ ?_ ?_⟩
    · rintro i H2 hi ⟨kp2, rs, R, hDr, hrs, hRl, hok, hfr⟩
      have ei : (0 : Int) + (i : Int) = (i : Int) := by omega
      refine ⟨rfl, yesT ?_⟩
      rw [ei]
      refine ⟨_, rfl, _, rfl, by omega, by omega, fun D2 hD2 => lc_range (n := ((i : Nat) : Int).toNat) (fun j H' => Kp h c H2 H' ∧ ∃ r, H' D2 = some (.lst (vI r)) ∧ r.length = j ∧ ∀ t ∈ r, 0 ≤ t ∧ t < (bk.length : Int)) ⟨(Kp.refl kp2.h1).new hD2, [], upd_same, rfl, fun t ht => by cases ht⟩ ?_ ?_⟩
      · rintro j H3 hj ⟨kp3, r, hDr3, hrl, hrt⟩
        refine ⟨rfl, yesT ?_⟩
        refine ⟨_, rfl, _, rfl, h, c, fw, rfl, kp3.h1, by omega, by omega, fun z H4 kp4 z0 z1 => ?_⟩
        have kp34 := kp3.trans kp4
        have hDr4 := kp4.lI (show lI H3 D2 r from hDr3)
        refine ⟨_, hDr4, by rw [vI_len, hrl]; exact size_lt (by omega), kp34.put hD2, r ++ [z], by rw [upd_same, vI_snoc], by rw [List.length_append, hrl]; rfl, fun t ht => ?_⟩
        rcases List.mem_append.mp ht with ht | ht
        · exact hrt t ht
        · rw [List.mem_singleton] at ht; subst ht
          exact ⟨z0, by omega⟩
      · rintro H3 ⟨kp3, r, hDr3, hrl, hrt⟩
        have hDr4 := kp3.lR hDr
        have n2 : D2 ≠ D := fun e => by rw [e, hDr] at hD2; cases hD2
        refine ⟨_, hDr4, by rw [vR_len, hrs.len, hRl]; exact size_lt (by omega), (kp2.trans kp3).put hD, rs ++ [D2], R ++ [r], by rw [upd_same, ← vR_snoc], ?_, by rw [List.length_append, hRl]; rfl, hok.snoc (by omega) hrt, ?_⟩
        · refine ((kp3.rwsL hrs).updL hfr).snoc ?_
          show upd H3 D _ D2 = _
          rw [upd_ne n2]; exact hDr3
        · intro x hx
          rcases List.mem_append.mp hx with hx | hx
          · exact hfr x hx
          · rw [List.mem_singleton] at hx; subst hx
            exact n2
    rintro H5 ⟨kpD, rs, Rw, hDr, hrs, hRl, hok, hfr⟩
    have en : ((n : Nat) : Int).toNat = n := by omega
    rw [en] at hRl
    have hM : Mat bk n (matOf bk Rw) := by rw [← hRl]; exact matOf_ok hbk hok
    generalize hMe : matOf bk Rw = M at hM
    refine ⟨Bp, D, bk, rs, Rw, rfl, kpD.lI hB4, hbk, hDr, hrs, hok, by omega, fun H6 Tp trs s6 hT0 hTb => ?_⟩
    rw [hRl, hMe] at hTb
    -- other
    refine ⟨_, rfl, _, rfl, _, rfl, _, rfl, .of_le (by decide) (by omega) (by decide) (by omega), fun gl hgl => ?_⟩
    rw [rgV_range]
    have s7 : Same H6 (upd H6 gl (.lst (vI (iN (List.range n))))) := Same.upd_new hgl
    have gl7 : lI (upd H6 gl (.lst (vI (iN (List.range n))))) gl (iN (List.range n)) := upd_same
    generalize upd H6 gl (.lst (vI (iN (List.range n)))) = H7 at s7 gl7
    have kp7 := (kpD.same s6).same s7
    refine ⟨h, c, gl, n, rfl, kp7.h1, gl7, by omega, fun H8 Op o kp8 hO0 hO ho => ?_⟩
    have hT8 : TbA H8 Tp n M trs := kp8.tbA (hTb.same s7)
    refine ⟨Tp, Op, n, M, trs, o, rfl, hT8, hO, ho, by omega, fun H9 Pt prs s9 hP0 hPt hPn hPf => ?_⟩
    have kp78 := kp7.trans kp8
    have hB8 := kp78.lI hB4
    have hh8 := kp78.h1
    have kp9 : Kp h c H8 H9 := Kp.of hh8 s9
    have hMo := hM.ord ho
    generalize (fun a b => M (o.getD a 0) (o.getD b 0)) = Mo at hPt hMo
    refine gName_seq ?_
    refine seq_by (t := tIfS _ _ _) (fun σ' H' => ∃ v5 v6 v9 v10 v11 M2, σ' = [some (.ref a), some (.ref h), some (.ref Bp), some (.int n), some (.int fw), v5, v6, some (.ref Tp), some (.ref Pt), v9, v10, v11, none, none, none, none, none] ∧ Kp h c H8 H' ∧ TbA H' Pt n M2 prs ∧ Mat bk n M2) ?_ ?_
    · rintro σ' H10 ⟨v5, v6, v9, v10, v11, M2, rfl, kp10, hP10, hM2⟩
      -- companies
      refine ⟨_, rfl, _, rfl, _, rfl, h, c, n, rfl, kp10.h1, by omega, by omega, fun H11 G1 g1 kp11 _ hG1 hl1 hgl1 => ?_⟩
      have kpa := kp10.trans kp11
      refine ⟨_, rfl, Bp, G1, Tp, bk, g1, n, M, trs, rfl, kpa.lI hB8, hbk, hG1, hl1, by omega, kpa.tbA hT8, hM, by omega, fun H12 p0 s12 hc0 => ?_⟩
      have kpb := kpa.same s12
      refine ⟨_, rfl, _, rfl, _, rfl, h, c, n, rfl, kpb.h1, by omega, by omega, fun H13 G2 g2 kp13 _ hG2 hl2 hgl2 => ?_⟩
      have kpc := kpb.trans kp13
      have hP13 : TbA H13 Pt n M2 prs := kp13.tbA ((kp11.tbA hP10).same s12)
      refine ⟨_, rfl, Bp, G2, Pt, bk, g2, n, M2, prs, rfl, kpc.lI hB8, hbk, hG2, hl2, by omega, hP13, hM2, by omega, fun H14 p1 s14 hc1 => ?_⟩
      have kpd := kpc.same s14
      have hc0' : CompAt C CT H14 p0 bk g1 (rowsM M n) := (kp13.comp hc0).same s14
      have hT14 : TbA H14 Tp n M trs := kpd.tbA hT8
      have hP14 : TbA H14 Pt n M2 prs := hP13.same s14
      have hB14 : lI H14 Bp bk := kpd.lI hB8
      have hh14 : Hnd H14 h c := kpd.h1
      refine ⟨by show 2 ≤ sizeLine; decide, fun Cs hCs => ?_⟩
      have s15 : Same H14 (upd H14 Cs (.lst [.ref p0, .ref p1])) := Same.upd_new hCs
      have Cs15 : upd H14 Cs (.lst [.ref p0, .ref p1]) Cs = some (.lst [.ref p0, .ref p1]) := upd_same
      generalize upd H14 Cs (.lst [.ref p0, .ref p1]) = H15 at s15 Cs15
      refine ⟨by show 0 ≤ sizeLine; decide, fun Fo hFo0 => ?_⟩
      have hFo : H15 Fo = none := hFo0
      have s16 : Same H15 (upd H15 Fo (.lst [])) := Same.upd_new hFo
      have Fo16 : upd H15 Fo (.lst []) Fo = some (.lst (vR [])) := upd_same
      generalize upd H15 Fo (.lst []) = H16 at s16 Fo16
      refine ⟨_, rfl, _, _, _, _, rfl, rfl, SqL.of (s16 _ _ Cs15), at_of (j := 0) rfl rfl, _, rfl, by show 2 ≤ sizeLine; decide, fun t0 ht0 => ?_⟩
      have s17 : Same H16 (upd H16 t0 (.tup [.ref p0, .ref Tp])) := Same.upd_new ht0
      have t017 : upd H16 t0 (.tup [.ref p0, .ref Tp]) t0 = some (.tup [.ref p0, .ref Tp]) := upd_same
      generalize upd H16 t0 (.tup [.ref p0, .ref Tp]) = H17 at s17 t017
      refine ⟨_, rfl, _, _, _, _, rfl, rfl, SqL.of (s17 _ _ (s16 _ _ Cs15)), at_of (j := 1) rfl rfl, _, rfl, by show 2 ≤ sizeLine; decide, fun t1 ht1 => ?_⟩
      have s18 : Same H17 (upd H17 t1 (.tup [.ref p1, .ref Pt])) := Same.upd_new ht1
      have t118 : upd H17 t1 (.tup [.ref p1, .ref Pt]) t1 = some (.tup [.ref p1, .ref Pt]) := upd_same
      generalize upd H17 t1 (.tup [.ref p1, .ref Pt]) = H18 at s18 t118
      refine ⟨by show 2 ≤ sizeLine; decide, fun LL hLL => ?_⟩
      have s19 : Same H18 (upd H18 LL (.lst [.ref t0, .ref t1])) := Same.upd_new hLL
      have LL19 : upd H18 LL (.lst [.ref t0, .ref t1]) LL = some (.lst [.ref t0, .ref t1]) := upd_same
      have nLF : LL ≠ Fo := fun e => by rw [e, s18 _ _ (s17 _ _ Fo16)] at hLL; cases hLL
      generalize upd H18 LL (.lst [.ref t0, .ref t1]) = H19 at s19 LL19
      have s1519 : Same H15 H19 := s16.trans (s17.trans (s18.trans s19))
      refine ⟨LL, rfl, ⟨_, SqL.of LL19⟩, for_list (K := K) (a := LL) (xs := [.ref t0, .ref t1]) (fun i σ H' => ∃ v14 v15 v16 qs, σ = [some (.ref a), some (.ref h), some (.ref Bp), some (.int n), some (.int fw), v5, v6, some (.ref Tp), some (.ref Pt), v9, v10, v11, some (.ref Cs), some (.ref Fo), v14, v15, v16] ∧
          Same H15 H' ∧ H' LL = some (.lst [.ref t0, .ref t1]) ∧ H' t0 = some (.tup [.ref p0, .ref Tp]) ∧ H' t1 = some (.tup [.ref p1, .ref Pt]) ∧ H' Fo = some (.lst (vR qs)) ∧ Fms C CT H' bk n qs ([M, M2].take i))
        ⟨none, none, none, [], rfl, s1519, LL19, s19 _ _ (s18 _ _ t017), s19 _ _ t118, s19 _ _ (s18 _ _ (s17 _ _ Fo16)), Fms.nil⟩ (fun i σ H' _ q => ?_) ?_ ?_⟩
      · obtain ⟨_, _, _, _, _, _, q, _⟩ := q
        exact SqL.of q
      · rintro i x σ Hx hi ⟨v14, v15, v16, qs, rfl, sx, hLx, h0x, h1x, hFx, hfm⟩
        have item : ∃ tt p Tt N rs g, x = .ref tt ∧ Hx tt = some (.tup [.ref p, .ref Tt]) ∧ CompAt C CT Hx p bk g (rowsM N n) ∧ g.length = n ∧ TbA Hx Tt n N rs ∧ Mat bk n N ∧ [M, M2][i]? = some N := by
          have si := (s15.trans sx)
          match i, hi with
          | 0, hi => exact ⟨t0, p0, Tp, M, trs, g1, (Option.some.inj hi).symm, h0x, hc0'.same si, by omega, hT14.same si, hM, rfl⟩
          | 1, hi => exact ⟨t1, p1, Pt, M2, prs, g2, (Option.some.inj hi).symm, h1x, hc1.same si, by omega, hP14.same si, hM2, rfl⟩
          | i + 2, hi => exact absurd hi (by simp)
        obtain ⟨tt, p, Tt, N, rs2, g, rfl, htt, hcp, hgn, hTn, hMN, hNi⟩ := item
        have hBx : lI Hx Bp bk := sx _ _ (s15 _ _ hB14)
        have hco : CoM C CT Hx p bk n N := ⟨hbk, hMN, g, hgn, hcp⟩
        refine ⟨tt, _, rfl, SqT.of htt, rfl, _, _, rfl, _, _, rfl, rfl, ?_⟩
        -- form
        refine ⟨_, rfl, p, bk, n, N, rfl, hco, by omega, fun _ Ha q o1 sa ho1 hls hcq => ?_, fun z => absurd z (by omega)⟩
        have hfq := form_coM hbk hMN ho1 hcq
        have hcq0 := hcq
        obtain ⟨dxq, ttq, gtq, rtq, rsq, a1, ⟨tdq, btq, a2, a2'⟩, a3, a4, a5⟩ := hcq
        refine ⟨_, rfl, _, _, _, _, true, rfl, .own C, .base (.ins a1 T.cl Z.TI.ha Z.TI.hn Z.TI.htk Z.TI.hm), Z.TI.kit, _, rfl, iteFe rfl ?_⟩
        -- list(form.guests) != list(range(many))
        refine ⟨_, rfl, q, C, dxq, _, _, rfl, a1, T.cl, T.nG, cfs_guests _ _ _, gtq, _, rfl, .inr (SqT.of a3), fun l hl0 => ?_⟩
        have sb1 : Same Ha (upd Ha l (.lst (vI (iN (List.range n))))) := Same.upd_new hl0
        have hl1' : lI (upd Ha l (.lst (vI (iN (List.range n))))) l (iN (List.range n)) := upd_same
        generalize upd Ha l (.lst (vI (iN (List.range n)))) = Hb1 at sb1 hl1'
        refine ⟨_, rfl, _, rfl, .of_le (by decide) (by omega) (by decide) (by omega), fun l2 hl20 => ?_⟩
        rw [rgV_range]
        have sb2 : Same Hb1 (upd Hb1 l2 (.lst (vI (iN (List.range n))))) := Same.upd_new hl20
        have hl2' : lI (upd Hb1 l2 (.lst (vI (iN (List.range n))))) l2 (iN (List.range n)) := upd_same
        generalize upd Hb1 l2 (.lst (vI (iN (List.range n)))) = Hb at sb2 hl2'
        have sb := sb1.trans sb2
        refine ⟨dL (iN (List.range n)), dL (iN (List.range n)), dp_lI (lI_same sb2 _ _ hl1'), dp_lI hl2', sh_dL _, sh_dL _, _, rfl, iteFe (by rw [eqv_dL]; simp) ?_⟩
        -- list(form.ties.backs) != backs
        refine ⟨_, rfl, q, C, dxq, _, _, rfl, sb _ _ a1, T.cl, T.nT, cfs_ties _ _ _, ttq, CT, tdq, _, _, rfl, sb _ _ a2, TT.cl, TT.nB, tfs_backs _ _, btq, _, rfl, .inr (SqT.of (sb _ _ a2')), fun l3 hl30 => ?_⟩
        have sc1 : Same Hb (upd Hb l3 (.lst (vI bk))) := Same.upd_new hl30
        have hl3' : lI (upd Hb l3 (.lst (vI bk))) l3 bk := upd_same
        generalize upd Hb l3 (.lst (vI bk)) = Hc at sc1 hl3'
        have sc := sb.trans sc1
        have sac := sa.trans sc
        refine ⟨_, rfl, dL bk, dL bk, dp_lI hl3', dp_lI (lI_same sac _ _ hBx), sh_dL _, sh_dL _, _, rfl, iteFe (by rw [eqv_dL]; simp) ?_⟩
        -- form.rows != least(rows)
        refine ⟨_, rfl, q, C, dxq, _, _, rfl, sc _ _ a1, T.cl, T.nR, cfs_rows _ _ _, _, rfl, Tt, n, N, rs2, rfl, hTn.same sac, n5, fun Hd lt lts R sd hlt hlts hR => ?_⟩
        obtain rfl : R = rowsO N o1 := hR.unique hls
        have scd := sc.trans sd
        refine ⟨dT (rowsO N o1), dT (rowsO N o1), dp_dT (scd _ _ a4) (a5.same (tI_same scd)), dp_dT hlt hlts, sh_dT _, sh_dT _, _, rfl, iteFe (by rw [eqv_dT]; simp) ?_⟩
        -- list(company.rows) != list(tuples(rows))
        have sad := sac.trans sd
        obtain ⟨dxp, ttp, gtp, rtp, rsp, b1, b2, b3, b4, b5⟩ := hcp
        refine ⟨_, rfl, p, C, dxp, _, _, rfl, sad _ _ b1, T.cl, T.nR, cfs_rows _ _ _, rtp, _, rfl, .inr (SqT.of (sad _ _ b4)), fun l4 hl40 => ?_⟩
        have se1 : Same Hd (upd Hd l4 (.lst (vR rsp))) := Same.upd_new hl40
        have hl4' : upd Hd l4 (.lst (vR rsp)) l4 = some (.lst (vR rsp)) := upd_same
        generalize upd Hd l4 (.lst (vR rsp)) = He1 at se1 hl4'
        refine ⟨_, rfl, Tt, n, N, rs2, rfl, (hTn.same sad).same se1, by omega, fun He2 t5 ts5 se2 ht5 hts5 => ?_⟩
        refine ⟨t5, _, rfl, .inr (SqT.of ht5), fun l6 hl60 => ?_⟩
        have se3 : Same He2 (upd He2 l6 (.lst (vR ts5))) := Same.upd_new hl60
        have hl6' : upd He2 l6 (.lst (vR ts5)) l6 = some (.lst (vR ts5)) := upd_same
        generalize upd He2 l6 (.lst (vR ts5)) = Hf at se3 hl6'
        have se23 := se2.trans se3
        have sdf := se1.trans se23
        refine ⟨dLT (rowsM N n), dLT (rowsM N n), dp_dLT (se23 _ _ hl4') (b5.same (tI_same (sad.trans sdf))), dp_dLT hl6' (hts5.same (tI_same se3)), sh_dLT _, sh_dLT _, _, rfl, iteFe (by rw [eqv_dLT]; simp) ?_⟩
        have saf := scd.trans sdf
        -- are_alike(form, company), least_form(form) != form
        refine ⟨_, rfl, _, rfl, q, p, bk, n, _, N, rfl, hfq.same saf, hco.same (sa.trans saf), by omega, fun b Hg sg hb => ?_⟩
        obtain rfl : b = true := hb.mpr ⟨o1, like_ord ho1⟩
        refine ⟨_, rfl, iteFe rfl ?_⟩
        have sag := saf.trans sg
        refine ⟨_, rfl, q, bk, n, _, rfl, hfq.same sag, by omega, fun _ Hh q3 o3 sh ho3 hl3'' hc3 => ?_, fun z => absurd z (by omega)⟩
        have eR3 : rowsO (fun a b => N (o1.getD a 0) (o1.getD b 0)) o3 = rowsO N o1 := hl3''.unique (least_form hMN.anti ho1 hls)
        rw [eR3] at hc3
        have sah := sag.trans sh
        refine ⟨_, rfl, q3, q, bk, bk, _, _, _, _, rfl, rfl, hc3, hcq0.same sah, _, rfl, iteFe (by simp) ?_⟩
        -- forms.append(form)
        have sxh := sa.trans sah
        have hFh := sxh _ _ hFx
        have hil : i < 2 := by
          have := (List.getElem?_eq_some_iff.mp hi).1
          simpa using this
        refine ⟨_, rfl, .inl ⟨rfl, _, SqL.of hFh⟩, _, rfl, Fo, vR qs, _, rfl, rfl, hFh, ?_, ?_⟩
        · rw [vR_len, hfm.len, List.length_take]
          exact size_lt (by omega)
        refine ⟨_, _, _, qs ++ [q], rfl, Same.put (sx.trans sxh) hFo, ?_, ?_, ?_, by rw [upd_same, ← vR_snoc], ?_⟩
        · rw [upd_ne nLF]; exact sxh _ _ hLx
        · rw [upd_ne (ne_of (sxh _ _ h0x) hFh (by intro z; cases z))]; exact sxh _ _ h0x
        · rw [upd_ne (ne_of (sxh _ _ h1x) hFh (by intro z; cases z))]; exact sxh _ _ h1x
        · rw [take_snoc hNi]
          have put : ∀ q' N', FormAt C CT Hh q' bk n N' → FormAt C CT (upd Hh Fo (.lst (vR qs ++ [V.ref q]))) q' bk n N' := fun q' N' ⟨o', u1, u2, u3⟩ => ⟨o', u1, u2, u3.putL hFh⟩
          exact ((hfm.imp fun q' N' u => u.same sxh).imp put).snoc (put q N ⟨o1, ho1, hls, hcq0.same sah⟩)
      · rintro σ Hx ⟨v14, v15, v16, qs, rfl, sx, hLx, h0x, h1x, hFx, hfm⟩
        have hq2 : qs.length = 2 := hfm.len
        obtain ⟨q0, q1, rfl⟩ : ∃ q0 q1, qs = [q0, q1] := by
          match qs, hq2 with
          | [x, y], _ => exact ⟨x, y, rfl⟩
        have f0' := hfm.at_ 0 q0 M rfl rfl
        have f1' := hfm.at_ 1 q1 M2 rfl rfl
        have si := s15.trans sx
        have co0 : CoM C CT Hx p0 bk n M := ⟨hbk, hM, g1, by omega, hc0'.same si⟩
        have co1 : CoM C CT Hx p1 bk n M2 := ⟨hbk, hM2, g2, by omega, hc1.same si⟩
        have hCx := sx _ _ Cs15
        refine ⟨_, rfl, _, _, _, _, rfl, rfl, SqL.of hCx, at_of (j := 0) rfl rfl, _, rfl, _, _, _, _, rfl, rfl, SqL.of hCx, at_of (j := 1) rfl rfl, p0, p1, bk, n, M, M2, rfl, co0, co1, by omega, fun b Hy sy hb => ?_⟩
        have hFy := sy _ _ hFx
        obtain ⟨oa, ha1, ha2, ha3⟩ := f0'.same sy
        obtain ⟨ob, hb1, hb2, hb3⟩ := f1'.same sy
        refine ⟨_, rfl, _, _, _, _, rfl, rfl, SqL.of hFy, at_of (j := 0) rfl rfl, _, rfl, _, _, _, _, rfl, rfl, SqL.of hFy, at_of (j := 1) rfl rfl, q0, q1, bk, bk, _, _, _, _, rfl, rfl, ha3, hb3, ?_⟩
        refine ⟨b, _, rfl, _, rfl, iteFe ?_ ?_⟩
        · have ea := hb.trans (alike_iff hM.anti hM2.anti ha2 hb2)
          by_cases er : rowsO M oa = rowsO M2 ob
          · have eb : b = true := ea.mpr er
            simp [er, eb]
          · have eb : b = false := by
              cases b with
              | false => rfl
              | true => exact absurd (ea.mp rfl) er
            simp [er, eb]
        · have sxy := si.trans sy
          exact ⟨_, rfl, _, rfl, h, c, Bp, bk, rfl, hh14.same sxy, sxy _ _ hB14, hbk, fun H' => k H'⟩
    · intro tail
      refine ⟨_, rfl, _, _, rfl, rfl, _, rfl, ?_⟩
      by_cases h1 : (1 : Int) < (n : Int)
      · rw [decide_eq_true h1]
        refine iteT ⟨_, rfl, h, c, 2, rfl, kp9.h1, by decide, by decide, fun w1 H10 kp10' _ _ => ⟨rfl, _, rfl, ?_⟩⟩
        have kp10 := kp9.trans kp10'
        by_cases e : V.int w1 = V.int 0
        · rw [decide_eq_true e]
          refine iteT ⟨_, rfl, _, rfl, _, _, rfl, rfl, h, c, (n : Int) - 1, rfl, kp10.h1, by omega, by omega, fun u1 H11 kp11' d0 d1 => ⟨_, _, rfl, rfl, ?_⟩⟩
          have kp11 := kp10.trans kp11'
          show gName 5 (V.int ((1 : Int) + u1)) _ H11 _
          obtain ⟨j, hj⟩ : ∃ j : Nat, (1 : Int) + u1 = j := ⟨(1 + u1).toNat, by omega⟩
          rw [hj]
          refine ⟨_, rfl, _, rfl, h, c, (j : Int), rfl, kp11.h1, by omega, by omega, fun u2 H12 kp12' e0 e1 => ?_⟩
          have kp12 := kp11.trans kp12'
          obtain ⟨i, rfl⟩ : ∃ i : Nat, u2 = i := ⟨u2.toNat, by omega⟩
          refine ⟨_, rfl, _, rfl, _, _, rfl, .inl (SqL.of (kp12.lI hB8)), h, c, _, rfl, kp12.h1, by rw [vI_len]; omega, by rw [vI_len]; omega, fun t H13 kp13' g0 g1 => ?_⟩
          rw [vI_len] at g1
          have kp13 := kp12.trans kp13'
          have hP13 : TbA H13 Pt n Mo prs := (((kp10'.trans kp11').trans kp12').trans kp13').tbA hPt
          have hjn : j < n := by omega
          have hij : i < j := by omega
          obtain ⟨bj, hbj, hrowj⟩ := hP13.row hjn
          obtain ⟨bi, hbi, _⟩ := hP13.row (show i < n by omega)
          have fj := hPf bj (List.mem_of_getElem? hbj)
          have fi := hPf bi (List.mem_of_getElem? hbi)
          refine ⟨_, rfl, _, rfl, _, _, _, _, rfl, rfl, SqL.of hP13.1, at_of (j := j) rfl (vR_at hbj), ?_⟩
          refine ⟨_, rfl, _, rfl, _, rfl, bj, _, _, i, rfl, rfl, hrowj, ix_of rfl (by rw [vI_len, List.length_map, List.length_range]; omega), ?_⟩
          rw [vI_set]
          have kp14 := kp13.put (o := .lst (vI (((List.range n).map (Mo j)).set i t))) fj.1
          have hR14 := hP13.2.updRow hPn hbj (((List.range n).map (Mo j)).set i t)
          have hP14 : upd H13 bj (.lst (vI (((List.range n).map (Mo j)).set i t))) Pt = some (.lst (vR prs)) := by rw [upd_ne fj.2.symm]; exact hP13.1
          generalize upd H13 bj (.lst (vI (((List.range n).map (Mo j)).set i t))) = H14 at kp14 hR14 hP14
          refine ⟨_, rfl, _, rfl, _, _, _, _, rfl, rfl, SqL.of hP14, at_of (j := i) rfl (vR_at hbi), ?_⟩
          have hrowi : lI H14 bi ((List.range n).map (Mo i)) := by
            refine hR14.at_ i bi _ hbi ?_
            rw [List.getElem?_set, if_neg (by omega)]
            exact tblM_at (by omega)
          refine ⟨_, rfl, _, rfl, _, _, _, _, rfl, rfl, SqL.of (kp14.lI hB8), at_int g0 g1, _, rfl, _, rfl, bi, _, _, j, rfl, rfl, hrowi, ix_of rfl (by rw [vI_len, List.length_map, List.length_range]; omega), ?_⟩
          rw [vI_set]
          have hR15 := hR14.updRow hPn hbi (((List.range n).map (Mo i)).set j (bk.getD t.toNat 0))
          rw [tbl_set hij hjn] at hR15
          exact tail _ _ ⟨_, _, _, _, _, _, rfl, kp14.put fi.1, ⟨by rw [upd_ne fi.2.symm]; exact hP14, hR15⟩, upM_ok hbk hMo hij hjn g0 g1⟩
        · rw [decide_eq_false e]
          exact iteF (tail _ _ ⟨_, _, _, _, _, _, rfl, kp10, kp10'.tbA hPt, hMo⟩)
      · rw [decide_eq_false h1]
        exact iteF (tail _ _ ⟨_, _, _, _, _, _, rfl, kp9, hPt, hMo⟩)
end
end K7

namespace K7
open PySem PySem.Spec L2
/-- an error of the class at S is what «except S» names -/
theorem exm_self {K : PySem.W.Frag} {S : Addr} (h1 : PySem.W.subIn K (.ref S) (.type "BaseException") = some true) (h2 : PySem.W.isClsIn K S = true) (h3 : PySem.W.typeIn K (.ref S) = some (.type "type")) (h4 : PySem.W.subIn K (.ref S) (.ref S) = some true) :
    PySem.W.exmOne K (.ref S) (.ref S) = some true := by
  have e1 : (PySem.W.subIn K (.ref S) (.type "BaseException") == some true) = true := by rw [h1] <;> rfl
  have e2 : ((PySem.W.clsIn K S).isSome && PySem.W.typeIn K (.ref S) == some (.type "type")) = true := by
    have h2' : (PySem.W.clsIn K S).isSome = true := h2
    rw [h2', h3] <;> rfl
  show (if (PySem.W.subIn K (.ref S) (.type "BaseException") == some true) = true then (if ((PySem.W.clsIn K S).isSome && PySem.W.typeIn K (.ref S) == some (.type "type")) = true then PySem.W.subIn K (.ref S) (.ref S) else none) else none) = some true
  rw [if_pos e1, if_pos e2]
  exact h4
/-- what the top has written, and the law's promise by it -/
theorem all_mk {l : PySem.W.OpenLaw} {w : World} {K : PySem.W.Frag} {h : Heap} {mg : Str → Option Value} {fa : Addr} (X : K.In h) (G : h.Ns mainGlobals mg) (hfa : mg "law" = some (.ref fa))
    {C CT CM f_whole f_label f_rowWord f_check f_limit f_fits f_like f_alike f_rowBehind f_leastStep f_leastForm f_says f_mix f_hand f_draw f_backs f_labels f_part f_rows f_lcompany f_shuffled f_tableOf f_orders f_tuples f_least f_refused f_larger f_law f_ties f_tieAt f_cLen f_cEq f_tm f_company dT e1 e2 : Addr}
    {od_whole an_whole od_label an_label od_rowWord an_rowWord od_check an_check od_limit an_limit od_fits an_fits od_like an_like od_alike an_alike od_rowBehind an_rowBehind od_leastStep an_leastStep od_leastForm an_leastForm od_says an_says od_mix an_mix od_hand an_hand od_draw an_draw od_backs an_backs od_labels an_labels od_part an_part od_rows an_rows od_lcompany an_lcompany od_shuffled an_shuffled od_tableOf an_tableOf od_orders an_orders od_tuples an_tuples od_least an_least od_refused an_refused od_larger an_larger od_law an_law od_ties an_ties od_tieAt an_tieAt od_cLen an_cLen od_cEq an_cEq od_tm an_tm od_company an_company dod : Option Addr}
    {sl_whole sl_label sl_rowWord sl_check sl_limit sl_fits sl_like sl_alike sl_rowBehind sl_leastStep sl_leastForm sl_says sl_mix sl_hand sl_draw sl_backs sl_labels sl_part sl_rows sl_lcompany sl_shuffled sl_tableOf sl_orders sl_tuples sl_least sl_refused sl_larger sl_law sl_ties sl_tieAt sl_cLen sl_cEq sl_tm sl_company dsl : Array (Option Value)}
    {oc_whole kV_whole dc_whole pm_whole cd_whole ct_whole oc_label kV_label dc_label pm_label cd_label ct_label oc_rowWord kV_rowWord dc_rowWord pm_rowWord cd_rowWord ct_rowWord oc_check kV_check dc_check pm_check cd_check ct_check oc_limit kV_limit dc_limit pm_limit cd_limit ct_limit oc_fits kV_fits dc_fits pm_fits cd_fits ct_fits oc_like kV_like dc_like pm_like cd_like ct_like oc_alike kV_alike dc_alike pm_alike cd_alike ct_alike oc_rowBehind kV_rowBehind dc_rowBehind pm_rowBehind cd_rowBehind ct_rowBehind oc_leastStep kV_leastStep dc_leastStep pm_leastStep cd_leastStep ct_leastStep oc_leastForm kV_leastForm dc_leastForm pm_leastForm cd_leastForm ct_leastForm oc_says kV_says dc_says pm_says cd_says ct_says oc_mix kV_mix dc_mix pm_mix cd_mix ct_mix oc_hand kV_hand dc_hand pm_hand cd_hand ct_hand oc_draw kV_draw dc_draw pm_draw cd_draw ct_draw oc_backs kV_backs dc_backs pm_backs cd_backs ct_backs oc_labels kV_labels dc_labels pm_labels cd_labels ct_labels oc_part kV_part dc_part pm_part cd_part ct_part oc_rows kV_rows dc_rows pm_rows cd_rows ct_rows oc_lcompany kV_lcompany dc_lcompany pm_lcompany cd_lcompany ct_lcompany oc_shuffled kV_shuffled dc_shuffled pm_shuffled cd_shuffled ct_shuffled oc_tableOf kV_tableOf dc_tableOf pm_tableOf cd_tableOf ct_tableOf oc_orders kV_orders dc_orders pm_orders cd_orders ct_orders oc_tuples kV_tuples dc_tuples pm_tuples cd_tuples ct_tuples oc_least kV_least dc_least pm_least cd_least ct_least oc_refused kV_refused dc_refused pm_refused cd_refused ct_refused oc_larger kV_larger dc_larger pm_larger cd_larger ct_larger oc_law kV_law dc_law pm_law cd_law ct_law oc_ties kV_ties dc_ties pm_ties cd_ties ct_ties oc_tieAt kV_tieAt dc_tieAt pm_tieAt cd_tieAt ct_tieAt oc_cLen kV_cLen dc_cLen pm_cLen cd_cLen ct_cLen oc_cEq kV_cEq dc_cEq pm_cEq cd_cEq ct_cEq oc_tm kV_tm dc_tm pm_tm cd_tm ct_tm oc_company kV_company dc_company pm_company cd_company ct_company doc_ : Value}
    {t_ties t_label t_guests t_like : Tok} {dn : Nat}
    {nm qn : Str} {nN : Addr} {bs bm : List Value} {sn : List Str} {sub : List Value} {ab : Bool} {col : Option Bool} {dd : Option Addr} {m0 m1 m2 m3 m5 : Option Value}
    (aC : PySem.W.nsIn K mainGlobals "Company" = some (some (.ref C)))
    (aT : PySem.W.nsIn K mainGlobals "Ties" = some (some (.ref CT)))
    (aM : PySem.W.nsIn K mainGlobals "TooMany" = some (some (.ref CM)))
    (a_whole : PySem.W.nsIn K mainGlobals "is_whole" = some (some (.ref f_whole)))
    (l_whole : K.lookup f_whole = some ⟨oc_whole, od_whole, .func (PySem.W.fnOf "is_whole" "is_whole" (defArgs sIsWhole) (defBody sIsWhole) (defScope sIsWhole) .none kV_whole dc_whole pm_whole an_whole cd_whole ct_whole), sl_whole⟩)
    (c_whole : PySem.W.codeIn K cd_whole "is_whole" = true)
    (k_whole : PySem.W.keepIn K (.ref f_whole) = true)
    (a_label : PySem.W.nsIn K mainGlobals "is_label" = some (some (.ref f_label)))
    (l_label : K.lookup f_label = some ⟨oc_label, od_label, .func (PySem.W.fnOf "is_label" "is_label" (defArgs sIsLabel) (defBody sIsLabel) (defScope sIsLabel) .none kV_label dc_label pm_label an_label cd_label ct_label), sl_label⟩)
    (c_label : PySem.W.codeIn K cd_label "is_label" = true)
    (k_label : PySem.W.keepIn K (.ref f_label) = true)
    (a_rowWord : PySem.W.nsIn K mainGlobals "_row_word" = some (some (.ref f_rowWord)))
    (l_rowWord : K.lookup f_rowWord = some ⟨oc_rowWord, od_rowWord, .func (PySem.W.fnOf "_row_word" "_row_word" (defArgs sRowWord) (defBody sRowWord) (defScope sRowWord) .none kV_rowWord dc_rowWord pm_rowWord an_rowWord cd_rowWord ct_rowWord), sl_rowWord⟩)
    (c_rowWord : PySem.W.codeIn K cd_rowWord "_row_word" = true)
    (k_rowWord : PySem.W.keepIn K (.ref f_rowWord) = true)
    (a_check : PySem.W.nsIn K mainGlobals "_check" = some (some (.ref f_check)))
    (l_check : K.lookup f_check = some ⟨oc_check, od_check, .func (PySem.W.fnOf "_check" "_check" (defArgs sCheck) (defBody sCheck) (defScope sCheck) .none kV_check dc_check pm_check an_check cd_check ct_check), sl_check⟩)
    (c_check : PySem.W.codeIn K cd_check "_check" = true)
    (k_check : PySem.W.keepIn K (.ref f_check) = true)
    (a_limit : PySem.W.nsIn K mainGlobals "_limit" = some (some (.ref f_limit)))
    (l_limit : K.lookup f_limit = some ⟨oc_limit, od_limit, .func (PySem.W.fnOf "_limit" "_limit" (defArgs sLimit) (defBody sLimit) (defScope sLimit) .none kV_limit dc_limit pm_limit an_limit cd_limit ct_limit), sl_limit⟩)
    (c_limit : PySem.W.codeIn K cd_limit "_limit" = true)
    (k_limit : PySem.W.keepIn K (.ref f_limit) = true)
    (a_fits : PySem.W.nsIn K mainGlobals "_fits" = some (some (.ref f_fits)))
    (l_fits : K.lookup f_fits = some ⟨oc_fits, od_fits, .func (PySem.W.fnOf "_fits" "_fits" (defArgs sFits) (defBody sFits) (defScope sFits) .none kV_fits dc_fits pm_fits an_fits cd_fits ct_fits), sl_fits⟩)
    (c_fits : PySem.W.codeIn K cd_fits "_fits" = true)
    (k_fits : PySem.W.keepIn K (.ref f_fits) = true)
    (a_like : PySem.W.nsIn K mainGlobals "likenesses" = some (some (.ref f_like)))
    (l_like : K.lookup f_like = some ⟨oc_like, od_like, .func (PySem.W.fnOf "likenesses" "likenesses" (defArgs sLikenesses) (defBody sLikenesses) (defScope sLikenesses) .none kV_like dc_like pm_like an_like cd_like ct_like), sl_like⟩)
    (c_like : PySem.W.codeIn K cd_like "likenesses" = true)
    (k_like : PySem.W.keepIn K (.ref f_like) = true)
    (a_alike : PySem.W.nsIn K mainGlobals "are_alike" = some (some (.ref f_alike)))
    (l_alike : K.lookup f_alike = some ⟨oc_alike, od_alike, .func (PySem.W.fnOf "are_alike" "are_alike" (defArgs sAreAlike) (defBody sAreAlike) (defScope sAreAlike) .none kV_alike dc_alike pm_alike an_alike cd_alike ct_alike), sl_alike⟩)
    (c_alike : PySem.W.codeIn K cd_alike "are_alike" = true)
    (k_alike : PySem.W.keepIn K (.ref f_alike) = true)
    (a_rowBehind : PySem.W.nsIn K mainGlobals "_row_behind" = some (some (.ref f_rowBehind)))
    (l_rowBehind : K.lookup f_rowBehind = some ⟨oc_rowBehind, od_rowBehind, .func (PySem.W.fnOf "_row_behind" "_row_behind" (defArgs sRowBehind) (defBody sRowBehind) (defScope sRowBehind) .none kV_rowBehind dc_rowBehind pm_rowBehind an_rowBehind cd_rowBehind ct_rowBehind), sl_rowBehind⟩)
    (c_rowBehind : PySem.W.codeIn K cd_rowBehind "_row_behind" = true)
    (k_rowBehind : PySem.W.keepIn K (.ref f_rowBehind) = true)
    (a_leastStep : PySem.W.nsIn K mainGlobals "_least_step" = some (some (.ref f_leastStep)))
    (l_leastStep : K.lookup f_leastStep = some ⟨oc_leastStep, od_leastStep, .func (PySem.W.fnOf "_least_step" "_least_step" (defArgs sLeastStep) (defBody sLeastStep) (defScope sLeastStep) .none kV_leastStep dc_leastStep pm_leastStep an_leastStep cd_leastStep ct_leastStep), sl_leastStep⟩)
    (c_leastStep : PySem.W.codeIn K cd_leastStep "_least_step" = true)
    (k_leastStep : PySem.W.keepIn K (.ref f_leastStep) = true)
    (a_leastForm : PySem.W.nsIn K mainGlobals "least_form" = some (some (.ref f_leastForm)))
    (l_leastForm : K.lookup f_leastForm = some ⟨oc_leastForm, od_leastForm, .func (PySem.W.fnOf "least_form" "least_form" (defArgs sLeastForm) (defBody sLeastForm) (defScope sLeastForm) .none kV_leastForm dc_leastForm pm_leastForm an_leastForm cd_leastForm ct_leastForm), sl_leastForm⟩)
    (c_leastForm : PySem.W.codeIn K cd_leastForm "least_form" = true)
    (k_leastForm : PySem.W.keepIn K (.ref f_leastForm) = true)
    (a_says : PySem.W.nsIn K mainGlobals "_law_says" = some (some (.ref f_says)))
    (l_says : K.lookup f_says = some ⟨oc_says, od_says, .func (PySem.W.fnOf "_law_says" "_law_says" (defArgs sSays) (defBody sSays) (defScope sSays) .none kV_says dc_says pm_says an_says cd_says ct_says), sl_says⟩)
    (c_says : PySem.W.codeIn K cd_says "_law_says" = true)
    (k_says : PySem.W.keepIn K (.ref f_says) = true)
    (a_mix : PySem.W.nsIn K mainGlobals "_law_mix" = some (some (.ref f_mix)))
    (l_mix : K.lookup f_mix = some ⟨oc_mix, od_mix, .func (PySem.W.fnOf "_law_mix" "_law_mix" (defArgs sMix) (defBody sMix) (defScope sMix) .none kV_mix dc_mix pm_mix an_mix cd_mix ct_mix), sl_mix⟩)
    (c_mix : PySem.W.codeIn K cd_mix "_law_mix" = true)
    (k_mix : PySem.W.keepIn K (.ref f_mix) = true)
    (a_hand : PySem.W.nsIn K mainGlobals "_law_hand" = some (some (.ref f_hand)))
    (l_hand : K.lookup f_hand = some ⟨oc_hand, od_hand, .func (PySem.W.fnOf "_law_hand" "_law_hand" (defArgs sHand) (defBody sHand) (defScope sHand) .none kV_hand dc_hand pm_hand an_hand cd_hand ct_hand), sl_hand⟩)
    (c_hand : PySem.W.codeIn K cd_hand "_law_hand" = true)
    (k_hand : PySem.W.keepIn K (.ref f_hand) = true)
    (a_draw : PySem.W.nsIn K mainGlobals "_law_draw" = some (some (.ref f_draw)))
    (l_draw : K.lookup f_draw = some ⟨oc_draw, od_draw, .func (PySem.W.fnOf "_law_draw" "_law_draw" (defArgs sDraw) (defBody sDraw) (defScope sDraw) .none kV_draw dc_draw pm_draw an_draw cd_draw ct_draw), sl_draw⟩)
    (c_draw : PySem.W.codeIn K cd_draw "_law_draw" = true)
    (k_draw : PySem.W.keepIn K (.ref f_draw) = true)
    (a_backs : PySem.W.nsIn K mainGlobals "_law_backs" = some (some (.ref f_backs)))
    (l_backs : K.lookup f_backs = some ⟨oc_backs, od_backs, .func (PySem.W.fnOf "_law_backs" "_law_backs" (defArgs sBacks) (defBody sBacks) (defScope sBacks) .none kV_backs dc_backs pm_backs an_backs cd_backs ct_backs), sl_backs⟩)
    (c_backs : PySem.W.codeIn K cd_backs "_law_backs" = true)
    (k_backs : PySem.W.keepIn K (.ref f_backs) = true)
    (a_labels : PySem.W.nsIn K mainGlobals "_law_labels" = some (some (.ref f_labels)))
    (l_labels : K.lookup f_labels = some ⟨oc_labels, od_labels, .func (PySem.W.fnOf "_law_labels" "_law_labels" (defArgs sLabels) (defBody sLabels) (defScope sLabels) .none kV_labels dc_labels pm_labels an_labels cd_labels ct_labels), sl_labels⟩)
    (c_labels : PySem.W.codeIn K cd_labels "_law_labels" = true)
    (k_labels : PySem.W.keepIn K (.ref f_labels) = true)
    (a_part : PySem.W.nsIn K mainGlobals "_law_part" = some (some (.ref f_part)))
    (l_part : K.lookup f_part = some ⟨oc_part, od_part, .func (PySem.W.fnOf "_law_part" "_law_part" (defArgs sPart) (defBody sPart) (defScope sPart) .none kV_part dc_part pm_part an_part cd_part ct_part), sl_part⟩)
    (c_part : PySem.W.codeIn K cd_part "_law_part" = true)
    (k_part : PySem.W.keepIn K (.ref f_part) = true)
    (a_rows : PySem.W.nsIn K mainGlobals "_law_rows" = some (some (.ref f_rows)))
    (l_rows : K.lookup f_rows = some ⟨oc_rows, od_rows, .func (PySem.W.fnOf "_law_rows" "_law_rows" (defArgs sRows) (defBody sRows) (defScope sRows) .none kV_rows dc_rows pm_rows an_rows cd_rows ct_rows), sl_rows⟩)
    (c_rows : PySem.W.codeIn K cd_rows "_law_rows" = true)
    (k_rows : PySem.W.keepIn K (.ref f_rows) = true)
    (a_lcompany : PySem.W.nsIn K mainGlobals "_law_company" = some (some (.ref f_lcompany)))
    (l_lcompany : K.lookup f_lcompany = some ⟨oc_lcompany, od_lcompany, .func (PySem.W.fnOf "_law_company" "_law_company" (defArgs sLCompany) (defBody sLCompany) (defScope sLCompany) .none kV_lcompany dc_lcompany pm_lcompany an_lcompany cd_lcompany ct_lcompany), sl_lcompany⟩)
    (c_lcompany : PySem.W.codeIn K cd_lcompany "_law_company" = true)
    (k_lcompany : PySem.W.keepIn K (.ref f_lcompany) = true)
    (a_shuffled : PySem.W.nsIn K mainGlobals "_law_shuffled" = some (some (.ref f_shuffled)))
    (l_shuffled : K.lookup f_shuffled = some ⟨oc_shuffled, od_shuffled, .func (PySem.W.fnOf "_law_shuffled" "_law_shuffled" (defArgs sShuffled) (defBody sShuffled) (defScope sShuffled) .none kV_shuffled dc_shuffled pm_shuffled an_shuffled cd_shuffled ct_shuffled), sl_shuffled⟩)
    (c_shuffled : PySem.W.codeIn K cd_shuffled "_law_shuffled" = true)
    (k_shuffled : PySem.W.keepIn K (.ref f_shuffled) = true)
    (a_tableOf : PySem.W.nsIn K mainGlobals "_law_table_of" = some (some (.ref f_tableOf)))
    (l_tableOf : K.lookup f_tableOf = some ⟨oc_tableOf, od_tableOf, .func (PySem.W.fnOf "_law_table_of" "_law_table_of" (defArgs sTableOf) (defBody sTableOf) (defScope sTableOf) .none kV_tableOf dc_tableOf pm_tableOf an_tableOf cd_tableOf ct_tableOf), sl_tableOf⟩)
    (c_tableOf : PySem.W.codeIn K cd_tableOf "_law_table_of" = true)
    (k_tableOf : PySem.W.keepIn K (.ref f_tableOf) = true)
    (a_orders : PySem.W.nsIn K mainGlobals "_law_orders" = some (some (.ref f_orders)))
    (l_orders : K.lookup f_orders = some ⟨oc_orders, od_orders, .func (PySem.W.fnOf "_law_orders" "_law_orders" (defArgs sOrders) (defBody sOrders) (defScope sOrders) .none kV_orders dc_orders pm_orders an_orders cd_orders ct_orders), sl_orders⟩)
    (c_orders : PySem.W.codeIn K cd_orders "_law_orders" = true)
    (k_orders : PySem.W.keepIn K (.ref f_orders) = true)
    (a_tuples : PySem.W.nsIn K mainGlobals "_law_tuples" = some (some (.ref f_tuples)))
    (l_tuples : K.lookup f_tuples = some ⟨oc_tuples, od_tuples, .func (PySem.W.fnOf "_law_tuples" "_law_tuples" (defArgs sTuples) (defBody sTuples) (defScope sTuples) .none kV_tuples dc_tuples pm_tuples an_tuples cd_tuples ct_tuples), sl_tuples⟩)
    (c_tuples : PySem.W.codeIn K cd_tuples "_law_tuples" = true)
    (k_tuples : PySem.W.keepIn K (.ref f_tuples) = true)
    (a_least : PySem.W.nsIn K mainGlobals "_law_least" = some (some (.ref f_least)))
    (l_least : K.lookup f_least = some ⟨oc_least, od_least, .func (PySem.W.fnOf "_law_least" "_law_least" (defArgs sLeast) (defBody sLeast) (defScope sLeast) .none kV_least dc_least pm_least an_least cd_least ct_least), sl_least⟩)
    (c_least : PySem.W.codeIn K cd_least "_law_least" = true)
    (k_least : PySem.W.keepIn K (.ref f_least) = true)
    (a_refused : PySem.W.nsIn K mainGlobals "_law_refused" = some (some (.ref f_refused)))
    (l_refused : K.lookup f_refused = some ⟨oc_refused, od_refused, .func (PySem.W.fnOf "_law_refused" "_law_refused" (defArgs sRefused) (defBody sRefused) (defScope sRefused) .none kV_refused dc_refused pm_refused an_refused cd_refused ct_refused), sl_refused⟩)
    (c_refused : PySem.W.codeIn K cd_refused "_law_refused" = true)
    (k_refused : PySem.W.keepIn K (.ref f_refused) = true)
    (a_larger : PySem.W.nsIn K mainGlobals "_law_larger" = some (some (.ref f_larger)))
    (l_larger : K.lookup f_larger = some ⟨oc_larger, od_larger, .func (PySem.W.fnOf "_law_larger" "_law_larger" (defArgs sLarger) (defBody sLarger) (defScope sLarger) .none kV_larger dc_larger pm_larger an_larger cd_larger ct_larger), sl_larger⟩)
    (c_larger : PySem.W.codeIn K cd_larger "_law_larger" = true)
    (k_larger : PySem.W.keepIn K (.ref f_larger) = true)
    (a_law : PySem.W.nsIn K mainGlobals "law" = some (some (.ref f_law)))
    (l_law : K.lookup f_law = some ⟨oc_law, od_law, .func (PySem.W.fnOf "law" "law" (defArgs sLaw) (defBody sLaw) (defScope sLaw) .none kV_law dc_law pm_law an_law cd_law ct_law), sl_law⟩)
    (c_law : PySem.W.codeIn K cd_law "law" = true)
    (k_law : PySem.W.keepIn K (.ref f_law) = true)
    (a_ties : PySem.W.findIn K (.ref CT) "__init__" = some (some (.ref f_ties)))
    (i_ties : PySem.W.isFn K (.ref f_ties) = true)
    (l_ties : K.lookup f_ties = some ⟨oc_ties, od_ties, .func (PySem.W.fnOf "__init__" "Ties.__init__" (defArgs sTies) (defBody sTies) (defScope sTies) .none kV_ties dc_ties pm_ties an_ties cd_ties ct_ties), sl_ties⟩)
    (c_ties : PySem.W.codeIn K cd_ties "Ties.__init__" = true)
    (k_ties : PySem.W.keepIn K (.ref f_ties) = true)
    (a_tieAt : PySem.W.findIn K (.ref C) "tie_at" = some (some (.ref f_tieAt)))
    (i_tieAt : PySem.W.isFn K (.ref f_tieAt) = true)
    (l_tieAt : K.lookup f_tieAt = some ⟨oc_tieAt, od_tieAt, .func (PySem.W.fnOf "tie_at" "Company.tie_at" (defArgs sTieAt) (defBody sTieAt) (defScope sTieAt) .none kV_tieAt dc_tieAt pm_tieAt an_tieAt cd_tieAt ct_tieAt), sl_tieAt⟩)
    (c_tieAt : PySem.W.codeIn K cd_tieAt "Company.tie_at" = true)
    (k_tieAt : PySem.W.keepIn K (.ref f_tieAt) = true)
    (a_cLen : PySem.W.findIn K (.ref C) "__len__" = some (some (.ref f_cLen)))
    (i_cLen : PySem.W.isFn K (.ref f_cLen) = true)
    (l_cLen : K.lookup f_cLen = some ⟨oc_cLen, od_cLen, .func (PySem.W.fnOf "__len__" "Company.__len__" (defArgs sCLen) (defBody sCLen) (defScope sCLen) .none kV_cLen dc_cLen pm_cLen an_cLen cd_cLen ct_cLen), sl_cLen⟩)
    (c_cLen : PySem.W.codeIn K cd_cLen "Company.__len__" = true)
    (k_cLen : PySem.W.keepIn K (.ref f_cLen) = true)
    (a_cEq : PySem.W.findIn K (.ref C) "__eq__" = some (some (.ref f_cEq)))
    (i_cEq : PySem.W.isFn K (.ref f_cEq) = true)
    (l_cEq : K.lookup f_cEq = some ⟨oc_cEq, od_cEq, .func (PySem.W.fnOf "__eq__" "Company.__eq__" (defArgs sCEq) (defBody sCEq) (defScope sCEq) .none kV_cEq dc_cEq pm_cEq an_cEq cd_cEq ct_cEq), sl_cEq⟩)
    (c_cEq : PySem.W.codeIn K cd_cEq "Company.__eq__" = true)
    (k_cEq : PySem.W.keepIn K (.ref f_cEq) = true)
    (a_tm : PySem.W.findIn K (.ref CM) "__init__" = some (some (.ref f_tm)))
    (i_tm : PySem.W.typeIn K (.ref f_tm) = some (.type "function"))
    (l_tm : K.lookup f_tm = some ⟨oc_tm, od_tm, .func (PySem.W.fnOf "__init__" "TooMany.__init__" (defArgs sTooMany) (defBody sTooMany) (defScope sTooMany) .none kV_tm dc_tm pm_tm an_tm cd_tm ct_tm), sl_tm⟩)
    (c_tm : PySem.W.codeIn K cd_tm "TooMany.__init__" = true)
    (k_tm : PySem.W.keepIn K (.ref f_tm) = true)
    (a_company : PySem.W.findIn K (.ref C) "__init__" = some (some (.ref f_company)))
    (i_company : PySem.W.isFn K (.ref f_company) = true)
    (l_company : K.lookup f_company = some ⟨oc_company, od_company, .func (PySem.W.fnOf "__init__" "Company.__init__" (defArgs sCompany) (defBody sCompany) (defScope sCompany) (.ref dT) kV_company dc_company pm_company an_company cd_company ct_company), sl_company⟩)
    (c_company : PySem.W.codeIn K cd_company "Company.__init__" = true)
    (k_company : PySem.W.keepIn K (.ref f_company) = true)
    (l_dT : K.lookup dT = some ⟨doc_, dod, .seq ([Value.ref e1, Value.ref e2] : List Value).toArray dn, dsl⟩)
    (pgC : PySem.W.plainGet K C Str.empty = true)
    (hdC : PySem.W.hasDictIn K C = true)
    (poC : PySem.W.plainOver K C = true)
    (saC : PySem.W.findIn K (.ref C) "__setattr__" = some (some (.builtin "object.__setattr__")))
    (mkC : PySem.W.makesIn K C = true)
    (kcC : PySem.W.keepIn K (.ref C) = true)
    (pgT : PySem.W.plainGet K CT Str.empty = true)
    (hdT : PySem.W.hasDictIn K CT = true)
    (poT : PySem.W.plainOver K CT = true)
    (saT : PySem.W.findIn K (.ref CT) "__setattr__" = some (some (.builtin "object.__setattr__")))
    (mkT : PySem.W.makesIn K CT = true)
    (kcT : PySem.W.keepIn K (.ref CT) = true)
    (nC1 : PySem.W.findIn K (.ref C) "ties" = some none)
    (nC2 : PySem.W.findIn K (.ref C) "guests" = some none)
    (nC3 : PySem.W.findIn K (.ref C) "rows" = some none)
    (nT1 : PySem.W.findIn K (.ref CT) "backs" = some none)
    (nT2 : PySem.W.findIn K (.ref CT) "many" = some none)
    (iC1 : PySem.W.findIn K (.ref C) "__class__" = some (some (.builtin "object.__class__")))
    (iC2 : PySem.W.specialIn K (.builtin "object.__class__") "__get__" = some (some (.builtin "getset_descriptor.__get__")))
    (iC3 : PySem.W.takesIn K (.builtin "object.__class__") = some true)
    (iC4 : PySem.W.mroIn K C (.type "object") = some true)
    (iC5 : PySem.W.kitOne K (.ref C) (.ref C) = some true)
    (neC : PySem.W.findIn K (.ref C) "__ne__" = some (some (.builtin "object.__ne__")))
    (obC : PySem.W.subIn K (.ref C) (.type "object") = some true)
    (xM : K.lookup CM = some (excClassObj nm qn CM nN bs bm true sn sub ab col dd m0 m1 m2 m3 m5 "ValueError.__new__"))
    (rvM : PySem.HandSPX.refsVE bm = true)
    (saM : PySem.W.findIn K (.ref CM) "__setattr__" = some (some (.builtin "object.__setattr__")))
    (exM : PySem.W.subIn K (.ref CM) (.type "BaseException") = some true)
    (tyM : PySem.W.typeIn K (.ref CM) = some (.type "type"))
    (kcM : PySem.W.keepIn K (.ref CM) = true)
    (noM : PySem.W.findIn K (.ref CM) "count" = some none)
    (gaM : PySem.W.findIn K (.ref CM) "__getattribute__" = some (some (.builtin "BaseException.__getattribute__")))
    (ggM : PySem.W.findIn K (.ref CM) "__getattr__" = some none)
    (hdM : PySem.W.hasDictIn K CM = true)
    (icM : PySem.W.isClsIn K CM = true)
    (scM : PySem.W.subIn K (.ref CM) (.ref CM) = some true)
    (z_isinstance : PySem.W.nsIn K mainGlobals "isinstance" = some none)
    (z_int : PySem.W.nsIn K mainGlobals "int" = some none)
    (z_bool : PySem.W.nsIn K mainGlobals "bool" = some none)
    (z_list : PySem.W.nsIn K mainGlobals "list" = some none)
    (z_tuple : PySem.W.nsIn K mainGlobals "tuple" = some none)
    (z_len : PySem.W.nsIn K mainGlobals "len" = some none)
    (z_range : PySem.W.nsIn K mainGlobals "range" = some none)
    (z_reversed : PySem.W.nsIn K mainGlobals "reversed" = some none)
    (z_min : PySem.W.nsIn K mainGlobals "min" = some none)
    (z_max : PySem.W.nsIn K mainGlobals "max" = some none)
    (z_abs : PySem.W.nsIn K mainGlobals "abs" = some none)
    (z_enumerate : PySem.W.nsIn K mainGlobals "enumerate" = some none)
    (m_ties : PySem.W.nsIn K mainGlobals "MOST_TIES" = some (some (.int 4 t_ties)))
    (m_label : PySem.W.nsIn K mainGlobals "MOST_LABEL" = some (some (.int 1000000000 t_label)))
    (m_guests : PySem.W.nsIn K mainGlobals "MOST_GUESTS" = some (some (.int 60 t_guests)))
    (m_like : PySem.W.nsIn K mainGlobals "MOST_LIKE" = some (some (.int 7 t_like)))
    : ∃ fd : FuncData, (∀ (s : Shared) (v : Value), BindsTo s fd ⟨[v], []⟩ [("_law_script", v)]) ∧ ∀ base : Heap, K.In base → base.Ns mainGlobals mg → FnOk l.prog w K mg base CX0 9 fa fd ["_law_script"] (spLaw (K := K)) := by
  have e := hfa.symm.trans (PySem.W.mg_of X G a_law)
  cases e
  have B : Blt mg := ⟨PySem.W.mg_none_of X G z_isinstance, PySem.W.mg_none_of X G z_int, PySem.W.mg_none_of X G z_bool, PySem.W.mg_none_of X G z_list, PySem.W.mg_none_of X G z_tuple, PySem.W.mg_none_of X G z_len, PySem.W.mg_none_of X G z_range, PySem.W.mg_none_of X G z_reversed, PySem.W.mg_none_of X G z_min, PySem.W.mg_none_of X G z_max, PySem.W.mg_none_of X G z_abs, PySem.W.mg_none_of X G z_enumerate⟩
  have Ct : Cst mg := ⟨⟨_, PySem.W.mg_of X G m_ties⟩, ⟨_, PySem.W.mg_of X G m_label⟩, ⟨_, PySem.W.mg_of X G m_guests⟩, ⟨_, PySem.W.mg_of X G m_like⟩⟩
  have TT : TxT K mg CT := ⟨⟨pgT, hdT, poT, saT⟩, nT1, nT2, PySem.W.mg_of X G aT⟩
  have T : TxC K mg C := ⟨⟨pgC, hdC, poC, saC⟩, nC1, nC2, nC3, PySem.W.mg_of X G aC⟩
  have TI : TxI K C := ⟨iC1, iC2, iC3, iC4, iC5⟩
  have TM : TxM K mg CM f_tm := ⟨⟨⟨_, _, _, _, _, _, _, _, _, _, _, _, _, _, _, xM, rvM⟩, saM, exM, tyM, kcM⟩, noM, a_tm, i_tm, PySem.W.mg_of X G aM⟩
  have TE : TxE K CM := ⟨⟨gaM, ggM, exM, hdM⟩, exm_self exM icM tyM scM⟩
  have F_whole := fun_mk (st := sIsWhole) l_whole c_whole k_whole
  have b_whole := F_whole.binds (ps := ["thing", "low", "high"]) fun _ _ _ _ _ _ us hl => match us, hl with | [_, _, _], _ => rfl
  have F_label := fun_mk (st := sIsLabel) l_label c_label k_label
  have b_label := F_label.binds (ps := ["thing"]) fun _ _ _ _ _ _ us hl => match us, hl with | [_], _ => rfl
  have F_rowWord := fun_mk (st := sRowWord) l_rowWord c_rowWord k_rowWord
  have b_rowWord := F_rowWord.binds (ps := ["ties", "row", "length"]) fun _ _ _ _ _ _ us hl => match us, hl with | [_, _, _], _ => rfl
  have F_check := fun_mk (st := sCheck) l_check c_check k_check
  have b_check := F_check.binds (ps := ["ties", "guests", "rows"]) fun _ _ _ _ _ _ us hl => match us, hl with | [_, _, _], _ => rfl
  have F_limit := fun_mk (st := sLimit) l_limit c_limit k_limit
  have b_limit := F_limit.binds (ps := ["company"]) fun _ _ _ _ _ _ us hl => match us, hl with | [_], _ => rfl
  have F_fits := fun_mk (st := sFits) l_fits c_fits k_fits
  have b_fits := F_fits.binds (ps := ["one", "other", "places", "place"]) fun _ _ _ _ _ _ us hl => match us, hl with | [_, _, _, _], _ => rfl
  have F_like := fun_mk (st := sLikenesses) l_like c_like k_like
  have b_like := F_like.binds (ps := ["one", "other"]) fun _ _ _ _ _ _ us hl => match us, hl with | [_, _], _ => rfl
  have F_alike := fun_mk (st := sAreAlike) l_alike c_alike k_alike
  have b_alike := F_alike.binds (ps := ["one", "other"]) fun _ _ _ _ _ _ us hl => match us, hl with | [_, _], _ => rfl
  have F_rowBehind := fun_mk (st := sRowBehind) l_rowBehind c_rowBehind k_rowBehind
  have b_rowBehind := F_rowBehind.binds (ps := ["company", "order", "place"]) fun _ _ _ _ _ _ us hl => match us, hl with | [_, _, _], _ => rfl
  have F_leastStep := fun_mk (st := sLeastStep) l_leastStep c_leastStep k_leastStep
  have b_leastStep := F_leastStep.binds (ps := ["company", "orders"]) fun _ _ _ _ _ _ us hl => match us, hl with | [_, _], _ => rfl
  have F_leastForm := fun_mk (st := sLeastForm) l_leastForm c_leastForm k_leastForm
  have b_leastForm := F_leastForm.binds (ps := ["company"]) fun _ _ _ _ _ _ us hl => match us, hl with | [_], _ => rfl
  have F_says := fun_mk (st := sSays) l_says c_says k_says
  have b_says := F_says.binds (ps := ["_law_told", "_law_due"]) fun _ _ _ _ _ _ us hl => match us, hl with | [_, _], _ => rfl
  have F_mix := fun_mk (st := sMix) l_mix c_mix k_mix
  have b_mix := F_mix.binds (ps := ["_law_number", "_law_turn"]) fun _ _ _ _ _ _ us hl => match us, hl with | [_, _], _ => rfl
  have F_hand := fun_mk (st := sHand) l_hand c_hand k_hand
  have b_hand := F_hand.binds (ps := ["_law_script"]) fun _ _ _ _ _ _ us hl => match us, hl with | [_], _ => rfl
  have F_draw := fun_mk (st := sDraw) l_draw c_draw k_draw
  have b_draw := F_draw.binds (ps := ["_law_hand_here", "_law_many"]) fun _ _ _ _ _ _ us hl => match us, hl with | [_, _], _ => rfl
  have F_backs := fun_mk (st := sBacks) l_backs c_backs k_backs
  have b_backs := F_backs.binds (ps := ["_law_hand_here", "_law_many"]) fun _ _ _ _ _ _ us hl => match us, hl with | [_, _], _ => rfl
  have F_labels := fun_mk (st := sLabels) l_labels c_labels k_labels
  have b_labels := F_labels.binds (ps := ["_law_hand_here", "_law_many"]) fun _ _ _ _ _ _ us hl => match us, hl with | [_, _], _ => rfl
  have F_part := fun_mk (st := sPart) l_part c_part k_part
  have b_part := F_part.binds (ps := ["_law_table", "_law_places"]) fun _ _ _ _ _ _ us hl => match us, hl with | [_, _], _ => rfl
  have F_rows := fun_mk (st := sRows) l_rows c_rows k_rows
  have b_rows := F_rows.binds (ps := ["_law_table"]) fun _ _ _ _ _ _ us hl => match us, hl with | [_], _ => rfl
  have F_lcompany := fun_mk (st := sLCompany) l_lcompany c_lcompany k_lcompany
  have b_lcompany := F_lcompany.binds (ps := ["_law_backs_here", "_law_labels_here", "_law_table"]) fun _ _ _ _ _ _ us hl => match us, hl with | [_, _, _], _ => rfl
  have F_shuffled := fun_mk (st := sShuffled) l_shuffled c_shuffled k_shuffled
  have b_shuffled := F_shuffled.binds (ps := ["_law_hand_here", "_law_things"]) fun _ _ _ _ _ _ us hl => match us, hl with | [_, _], _ => rfl
  have F_tableOf := fun_mk (st := sTableOf) l_tableOf c_tableOf k_tableOf
  have b_tableOf := F_tableOf.binds (ps := ["_law_backs_here", "_law_rows_here"]) fun _ _ _ _ _ _ us hl => match us, hl with | [_, _], _ => rfl
  have F_orders := fun_mk (st := sOrders) l_orders c_orders k_orders
  have b_orders := F_orders.binds (ps := ["_law_many"]) fun _ _ _ _ _ _ us hl => match us, hl with | [_], _ => rfl
  have F_tuples := fun_mk (st := sTuples) l_tuples c_tuples k_tuples
  have b_tuples := F_tuples.binds (ps := ["_law_table"]) fun _ _ _ _ _ _ us hl => match us, hl with | [_], _ => rfl
  have F_least := fun_mk (st := sLeast) l_least c_least k_least
  have b_least := F_least.binds (ps := ["_law_table"]) fun _ _ _ _ _ _ us hl => match us, hl with | [_], _ => rfl
  have F_refused := fun_mk (st := sRefused) l_refused c_refused k_refused
  have b_refused := F_refused.binds (ps := ["_law_company_here"]) fun _ _ _ _ _ _ us hl => match us, hl with | [_], _ => rfl
  have F_larger := fun_mk (st := sLarger) l_larger c_larger k_larger
  have b_larger := F_larger.binds (ps := ["_law_hand_here", "_law_backs_here"]) fun _ _ _ _ _ _ us hl => match us, hl with | [_, _], _ => rfl
  have F_law := fun_mk (st := sLaw) l_law c_law k_law
  have b_law := F_law.binds (ps := ["_law_script"]) fun _ _ _ _ _ _ us hl => match us, hl with | [_], _ => rfl
  have F_ties := fun_mk (st := sTies) l_ties c_ties k_ties
  have b_ties := F_ties.binds (ps := ["self", "backs"]) fun _ _ _ _ _ _ us hl => match us, hl with | [_, _], _ => rfl
  have F_tieAt := fun_mk (st := sTieAt) l_tieAt c_tieAt k_tieAt
  have b_tieAt := F_tieAt.binds (ps := ["self", "one", "other"]) fun _ _ _ _ _ _ us hl => match us, hl with | [_, _, _], _ => rfl
  have F_cLen := fun_mk (st := sCLen) l_cLen c_cLen k_cLen
  have b_cLen := F_cLen.binds (ps := ["self"]) fun _ _ _ _ _ _ us hl => match us, hl with | [_], _ => rfl
  have F_cEq := fun_mk (st := sCEq) l_cEq c_cEq k_cEq
  have b_cEq := F_cEq.binds (ps := ["self", "other"]) fun _ _ _ _ _ _ us hl => match us, hl with | [_, _], _ => rfl
  have F_tm := fun_mk (st := sTooMany) l_tm c_tm k_tm
  have b_tm := F_tm.binds (ps := ["self", "count"]) fun _ _ _ _ _ _ us hl => match us, hl with | [_, _], _ => rfl
  have FC : FunCompany K [.ref e1, .ref e2] f_company _ := ⟨⟨_, _, _, _, _, _, _, _, _, _, rfl, l_company, c_company, .inr ⟨by simp, dT, _, [Value.ref e1, Value.ref e2], dn, rfl, l_dT, rfl, .cons rfl (.cons rfl .nil)⟩, .inl rfl⟩, k_company⟩
  obtain ⟨ds, dsv, bC0⟩ := FC.binds1 (ps := ["self", "ties", "guests", "rows"]) 4 2 (by simp) rfl fun _ _ _ _ _ _ _ us its hl hi => match us, hl, its, hi with
    | [_, _, _, _], _, [_, _], _ => ⟨_, rfl, rfl⟩
  obtain rfl : ds = [] := by
    have dsv : Vals [] ds := dsv
    cases dsv
    rfl
  refine ⟨PySem.W.fnOf "law" "law" (defArgs sLaw) (defBody sLaw) (defScope sLaw) .none kV_law dc_law pm_law an_law cd_law ct_law, fun s v => .of_eq rfl, fun base _ _ => ?_⟩
  have g_whole : Cal l.prog w K mg base CX0 1 "is_whole" ["thing", "low", "high"] spWhole := ⟨_, _, ok_whole F_whole B, PySem.W.mg_of X G a_whole, k_whole, b_whole⟩
  have g_label : Cal l.prog w K mg base CX0 2 "is_label" ["thing"] spLabel := ⟨_, _, ok_label F_label B Ct g_whole, PySem.W.mg_of X G a_label, k_label, b_label⟩
  have okT : FnOk l.prog w K mg base CX0 2 f_ties _ ["self", "backs"] (spTies CT) := ok_ties F_ties TT B Ct g_whole
  have g_rowWord : Cal l.prog w K mg base CX0 2 "_row_word" ["ties", "row", "length"] (spRowWord CT) := ⟨_, _, ok_rowWord F_rowWord TT B g_whole, PySem.W.mg_of X G a_rowWord, k_rowWord, b_rowWord⟩
  have g_check : Cal l.prog w K mg base CX0 3 "_check" ["ties", "guests", "rows"] (spCheck CT) := ⟨_, _, ok_check F_check TT B Ct g_label g_rowWord, PySem.W.mg_of X G a_check, k_check, b_check⟩
  have okC : FnOk l.prog w K mg base CX0 4 f_company _ ["self", "ties", "guests", "rows"] (spCompany C CT) := ok_company FC T TT B g_check
  have okTie : FnOk l.prog w K mg base CX0 1 f_tieAt _ ["self", "one", "other"] (spTieAt C CT) := ok_tieAt F_tieAt T TT
  have MO : MethO l.prog w K mg base C CT := ⟨⟨_, _, okTie, ⟨a_tieAt, i_tieAt, k_tieAt⟩, b_tieAt⟩⟩
  have okLen : FnOk l.prog w K mg base CX0 1 f_cLen _ ["self"] (spCLen C CT) := ok_cLen F_cLen T B
  have okEq : FnOk l.prog w K mg base CX0 1 f_cEq _ ["self", "other"] (spCEq C CT) := ok_cEq F_cEq T TT TI B
  have O : ClsO l.prog w K mg base C CT := ⟨⟨_, _, okLen, a_cLen, i_cLen, b_cLen⟩, ⟨_, _, okEq, a_cEq, i_cEq, b_cEq⟩, neC, obC⟩
  have okTM : FnOk l.prog w K mg base CX0 1 f_tm _ ["self", "count"] (spTM CM) := ok_tm F_tm TM
  have g_limit : Cal l.prog w K mg base (L2.CX l.prog w) 3 "_limit" ["company"] (spLimit C CT CM) := ⟨_, _, ok_limit F_limit B Ct O TM okTM b_tm, PySem.W.mg_of X G a_limit, k_limit, b_limit⟩
  have g_fits : Cal l.prog w K mg base CX0 2 "_fits" ["one", "other", "places", "place"] (spFits C CT) := ⟨_, _, ok_fits F_fits T B MO, PySem.W.mg_of X G a_fits, k_fits, b_fits⟩
  have g_like : CalG l.prog w K mg base 4 "likenesses" ["one", "other"] (spLike C CT) := ⟨_, _, gf_like F_like T TT B O g_limit g_fits, PySem.W.mg_of X G a_like, k_like, b_like⟩
  have g_alike : Cal l.prog w K mg base CX0 6 "are_alike" ["one", "other"] (spAlike C CT) := ⟨_, _, ok_alike F_alike g_limit g_like, PySem.W.mg_of X G a_alike, k_alike, b_alike⟩
  have g_rowBehind : Cal l.prog w K mg base CX0 2 "_row_behind" ["company", "order", "place"] (spRowBehind C CT) := ⟨_, _, ok_rowBehind F_rowBehind T B MO, PySem.W.mg_of X G a_rowBehind, k_rowBehind, b_rowBehind⟩
  have g_leastStep : Cal l.prog w K mg base CX0 3 "_least_step" ["company", "orders"] (spLeastStep C CT) := ⟨_, _, ok_leastStep F_leastStep B O g_rowBehind, PySem.W.mg_of X G a_leastStep, k_leastStep, b_leastStep⟩
  have MC : Mk K C f_company := ⟨mkC, a_company, i_company, kcC⟩
  have MT : Mk K CT f_ties := ⟨mkT, a_ties, i_ties, kcT⟩
  have MM : Mks l.prog w K mg base C CT := ⟨⟨_, _, MC, okC, bC0⟩, ⟨_, _, MT, okT, b_ties⟩⟩
  have g_leastForm : Cal l.prog w K mg base (L2.CX l.prog w) 6 "least_form" ["company"] (spLeastForm C CT CM) := ⟨_, _, ok_leastForm F_leastForm T TT B O g_limit g_leastStep MC okC bC0, PySem.W.mg_of X G a_leastForm, k_leastForm, b_leastForm⟩
  have g_says : Cal l.prog w K mg base CX0 1 "_law_says" ["_law_told", "_law_due"] spSays := ⟨_, _, ok_says F_says B, PySem.W.mg_of X G a_says, k_says, b_says⟩
  have g_mix : Cal l.prog w K mg base CX0 1 "_law_mix" ["_law_number", "_law_turn"] spMix := ⟨_, _, ok_mix F_mix B, PySem.W.mg_of X G a_mix, k_mix, b_mix⟩
  have g_hand : Cal l.prog w K mg base CX0 1 "_law_hand" ["_law_script"] (spHand (K := K)) := ⟨_, _, ok_hand F_hand B, PySem.W.mg_of X G a_hand, k_hand, b_hand⟩
  have g_draw : Cal l.prog w K mg base CX0 2 "_law_draw" ["_law_hand_here", "_law_many"] spDraw := ⟨_, _, ok_draw F_draw B g_mix, PySem.W.mg_of X G a_draw, k_draw, b_draw⟩
  have g_backs : Cal l.prog w K mg base CX0 3 "_law_backs" ["_law_hand_here", "_law_many"] spBacks := ⟨_, _, ok_backs F_backs B g_draw, PySem.W.mg_of X G a_backs, k_backs, b_backs⟩
  have g_labels : Cal l.prog w K mg base CX0 3 "_law_labels" ["_law_hand_here", "_law_many"] spLabels := ⟨_, _, ok_labels F_labels B g_draw, PySem.W.mg_of X G a_labels, k_labels, b_labels⟩
  have g_part : Cal l.prog w K mg base CX0 1 "_law_part" ["_law_table", "_law_places"] spPart := ⟨_, _, ok_part F_part, PySem.W.mg_of X G a_part, k_part, b_part⟩
  have g_rows : Cal l.prog w K mg base CX0 1 "_law_rows" ["_law_table"] spRows := ⟨_, _, ok_rows F_rows B, PySem.W.mg_of X G a_rows, k_rows, b_rows⟩
  have g_tuples : Cal l.prog w K mg base CX0 2 "_law_tuples" ["_law_table"] spTuples := ⟨_, _, ok_tuples F_tuples B g_rows, PySem.W.mg_of X G a_tuples, k_tuples, b_tuples⟩
  have g_orders : Cal l.prog w K mg base CX0 1 "_law_orders" ["_law_many"] spOrders := ⟨_, _, ok_orders F_orders B, PySem.W.mg_of X G a_orders, k_orders, b_orders⟩
  have g_least : Cal l.prog w K mg base CX0 3 "_law_least" ["_law_table"] spLeast := ⟨_, _, ok_least F_least B g_tuples g_orders g_part, PySem.W.mg_of X G a_least, k_least, b_least⟩
  have g_lcompany : Cal l.prog w K mg base CX0 6 "_law_company" ["_law_backs_here", "_law_labels_here", "_law_table"] (spLCompany C CT) := ⟨_, _, ok_lcompany F_lcompany T TT MM g_rows, PySem.W.mg_of X G a_lcompany, k_lcompany, b_lcompany⟩
  have g_shuffled : Cal l.prog w K mg base CX0 3 "_law_shuffled" ["_law_hand_here", "_law_things"] spShuffled := ⟨_, _, ok_shuffled F_shuffled B g_draw, PySem.W.mg_of X G a_shuffled, k_shuffled, b_shuffled⟩
  have g_tableOf : Cal l.prog w K mg base CX0 1 "_law_table_of" ["_law_backs_here", "_law_rows_here"] spTableOf := ⟨_, _, ok_tableOf F_tableOf B, PySem.W.mg_of X G a_tableOf, k_tableOf, b_tableOf⟩
  have g_refused : Cal l.prog w K mg base CX0 7 "_law_refused" ["_law_company_here"] (spRefused C CT) := ⟨_, _, ok_refused F_refused TM TE g_leastForm, PySem.W.mg_of X G a_refused, k_refused, b_refused⟩
  have Z : Al l.prog w K mg base C CT CM := ⟨T, TT, TI, B, O, MM, g_leastForm, g_alike, g_says, g_hand, g_draw, g_backs, g_labels, g_part, g_tuples, g_lcompany, g_shuffled, g_tableOf, g_least, g_refused⟩
  have g_larger : Cal l.prog w K mg base CX0 8 "_law_larger" ["_law_hand_here", "_law_backs_here"] spLarger := ⟨_, _, ok_larger F_larger Z, PySem.W.mg_of X G a_larger, k_larger, b_larger⟩
  exact ok_law F_law Z g_larger
theorem walk {l : PySem.W.OpenLaw} {q : Program} {loose : List Str} {XP : (Str → Option Value) → Heap → Prop} {YP : World → Heap → Prop} {d : DefRec} {K : Params → PySem.W.Frag} (hn : l.most = some 63) (hdf : d.params.defaults = [])
    (hY : ∀ (w : World) (h : Heap), YP w h → (K w.params).In h)
    (F : ∀ (w : World) (mg : Str → Option Value) (fa : Addr) (h : Heap), (K w.params).In h → h.Ns mainGlobals mg → mg d.name = some (.ref fa) →
      ∃ fd : FuncData, (∀ (s : Shared) (u : Value), BindsTo s fd ⟨[u], []⟩ [("_law_script", u)]) ∧ ∀ base : Heap, (K w.params).In base → base.Ns mainGlobals mg → FnOk l.prog w (K w.params) mg base CX0 9 fa fd ["_law_script"] (spLaw (K := K w.params))) :
    PySem.W.WalkO q loose XP YP l.row.toRowW d [] (fun f vs => PySem.call f vs) :=
  L2.walk_of (n := 63) (k := 9) (x := "_law_script") (CX := fun _ => CX0) (sp := fun w => spLaw (K := K w.params)) hn (by decide) hdf ⟨rfl, by decide, by decide⟩ hY F (fun _ _ a ns hl _ hS => ⟨a, ns, rfl, hS, Nat.le_trans hl (by decide), fun _ => rfl⟩) fun _ _ _ _ _ z => z
end K7

open PySem PySem.W PyProof.Rows in
set_option maxRecDepth 100000 in
set_option maxHeartbeats 0 in
theorem PySem.Challenge.cw_joinedguests_k07_whole_least_forms_of_co_holds : PySem.Challenge.rw_joinedguests_k07_whole_least_forms_of_co.Holds := by
  w_on; o_law; k_head; (case hw => w_witness2)
  k_fill
  refine K7.walk (l := PySem.Challenge.rw_joinedguests_k07_whole_least_forms_of_co) rfl rfl (fun w h Y => PySem.W.kIn_of Y) ?F
  case F =>
    intro w mg fa h KX G hmg
    refine' K7.all_mk KX G hmg ?aC ?aT ?aM ?a_whole ?l_whole ?c_whole ?k_whole ?a_label ?l_label ?c_label ?k_label ?a_rowWord ?l_rowWord ?c_rowWord ?k_rowWord ?a_check ?l_check ?c_check ?k_check ?a_limit ?l_limit ?c_limit ?k_limit ?a_fits ?l_fits ?c_fits ?k_fits ?a_like ?l_like ?c_like ?k_like ?a_alike ?l_alike ?c_alike ?k_alike ?a_rowBehind ?l_rowBehind ?c_rowBehind ?k_rowBehind ?a_leastStep ?l_leastStep ?c_leastStep ?k_leastStep ?a_leastForm ?l_leastForm ?c_leastForm ?k_leastForm ?a_says ?l_says ?c_says ?k_says ?a_mix ?l_mix ?c_mix ?k_mix ?a_hand ?l_hand ?c_hand ?k_hand ?a_draw ?l_draw ?c_draw ?k_draw ?a_backs ?l_backs ?c_backs ?k_backs ?a_labels ?l_labels ?c_labels ?k_labels ?a_part ?l_part ?c_part ?k_part ?a_rows ?l_rows ?c_rows ?k_rows ?a_lcompany ?l_lcompany ?c_lcompany ?k_lcompany ?a_shuffled ?l_shuffled ?c_shuffled ?k_shuffled ?a_tableOf ?l_tableOf ?c_tableOf ?k_tableOf ?a_orders ?l_orders ?c_orders ?k_orders ?a_tuples ?l_tuples ?c_tuples ?k_tuples ?a_least ?l_least ?c_least ?k_least ?a_refused ?l_refused ?c_refused ?k_refused ?a_larger ?l_larger ?c_larger ?k_larger ?a_law ?l_law ?c_law ?k_law ?a_ties ?i_ties ?l_ties ?c_ties ?k_ties ?a_tieAt ?i_tieAt ?l_tieAt ?c_tieAt ?k_tieAt ?a_cLen ?i_cLen ?l_cLen ?c_cLen ?k_cLen ?a_cEq ?i_cEq ?l_cEq ?c_cEq ?k_cEq ?a_tm ?i_tm ?l_tm ?c_tm ?k_tm ?a_company ?i_company ?l_company ?c_company ?k_company ?l_dT ?pgC ?hdC ?poC ?saC ?mkC ?kcC ?pgT ?hdT ?poT ?saT ?mkT ?kcT ?nC1 ?nC2 ?nC3 ?nT1 ?nT2 ?iC1 ?iC2 ?iC3 ?iC4 ?iC5 ?neC ?obC ?xM ?rvM ?saM ?exM ?tyM ?kcM ?noM ?gaM ?ggM ?hdM ?icM ?scM ?z_isinstance ?z_int ?z_bool ?z_list ?z_tuple ?z_len ?z_range ?z_reversed ?z_min ?z_max ?z_abs ?z_enumerate ?m_ties ?m_label ?m_guests ?m_like
    (case aC => k_is)
    (case aT => k_is)
    (case aM => k_is)
    (case a_whole => k_is)
    (case l_whole => k_is)
    (case c_whole => k_is)
    (case k_whole => k_is)
    (case a_label => k_is)
    (case l_label => k_is)
    (case c_label => k_is)
    (case k_label => k_is)
    (case a_rowWord => k_is)
    (case l_rowWord => k_is)
    (case c_rowWord => k_is)
    (case k_rowWord => k_is)
    (case a_check => k_is)
    (case l_check => k_is)
    (case c_check => k_is)
    (case k_check => k_is)
    (case a_limit => k_is)
    (case l_limit => k_is)
    (case c_limit => k_is)
    (case k_limit => k_is)
    (case a_fits => k_is)
    (case l_fits => k_is)
    (case c_fits => k_is)
    (case k_fits => k_is)
    (case a_like => k_is)
    (case l_like => k_is)
    (case c_like => k_is)
    (case k_like => k_is)
    (case a_alike => k_is)
    (case l_alike => k_is)
    (case c_alike => k_is)
    (case k_alike => k_is)
    (case a_rowBehind => k_is)
    (case l_rowBehind => k_is)
    (case c_rowBehind => k_is)
    (case k_rowBehind => k_is)
    (case a_leastStep => k_is)
    (case l_leastStep => k_is)
    (case c_leastStep => k_is)
    (case k_leastStep => k_is)
    (case a_leastForm => k_is)
    (case l_leastForm => k_is)
    (case c_leastForm => k_is)
    (case k_leastForm => k_is)
    (case a_says => k_is)
    (case l_says => k_is)
    (case c_says => k_is)
    (case k_says => k_is)
    (case a_mix => k_is)
    (case l_mix => k_is)
    (case c_mix => k_is)
    (case k_mix => k_is)
    (case a_hand => k_is)
    (case l_hand => k_is)
    (case c_hand => k_is)
    (case k_hand => k_is)
    (case a_draw => k_is)
    (case l_draw => k_is)
    (case c_draw => k_is)
    (case k_draw => k_is)
    (case a_backs => k_is)
    (case l_backs => k_is)
    (case c_backs => k_is)
    (case k_backs => k_is)
    (case a_labels => k_is)
    (case l_labels => k_is)
    (case c_labels => k_is)
    (case k_labels => k_is)
    (case a_part => k_is)
    (case l_part => k_is)
    (case c_part => k_is)
    (case k_part => k_is)
    (case a_rows => k_is)
    (case l_rows => k_is)
    (case c_rows => k_is)
    (case k_rows => k_is)
    (case a_lcompany => k_is)
    (case l_lcompany => k_is)
    (case c_lcompany => k_is)
    (case k_lcompany => k_is)
    (case a_shuffled => k_is)
    (case l_shuffled => k_is)
    (case c_shuffled => k_is)
    (case k_shuffled => k_is)
    (case a_tableOf => k_is)
    (case l_tableOf => k_is)
    (case c_tableOf => k_is)
    (case k_tableOf => k_is)
    (case a_orders => k_is)
    (case l_orders => k_is)
    (case c_orders => k_is)
    (case k_orders => k_is)
    (case a_tuples => k_is)
    (case l_tuples => k_is)
    (case c_tuples => k_is)
    (case k_tuples => k_is)
    (case a_least => k_is)
    (case l_least => k_is)
    (case c_least => k_is)
    (case k_least => k_is)
    (case a_refused => k_is)
    (case l_refused => k_is)
    (case c_refused => k_is)
    (case k_refused => k_is)
    (case a_larger => k_is)
    (case l_larger => k_is)
    (case c_larger => k_is)
    (case k_larger => k_is)
    (case a_law => k_is)
    (case l_law => k_is)
    (case c_law => k_is)
    (case k_law => k_is)
    (case a_ties => k_is)
    (case i_ties => k_is)
    (case l_ties => k_is)
    (case c_ties => k_is)
    (case k_ties => k_is)
    (case a_tieAt => k_is)
    (case i_tieAt => k_is)
    (case l_tieAt => k_is)
    (case c_tieAt => k_is)
    (case k_tieAt => k_is)
    (case a_cLen => k_is)
    (case i_cLen => k_is)
    (case l_cLen => k_is)
    (case c_cLen => k_is)
    (case k_cLen => k_is)
    (case a_cEq => k_is)
    (case i_cEq => k_is)
    (case l_cEq => k_is)
    (case c_cEq => k_is)
    (case k_cEq => k_is)
    (case a_tm => k_is)
    (case i_tm => k_is)
    (case l_tm => k_is)
    (case c_tm => k_is)
    (case k_tm => k_is)
    (case a_company => k_is)
    (case i_company => k_is)
    (case l_company => k_is)
    (case c_company => k_is)
    (case k_company => k_is)
    (case l_dT => first | k_is | rfl | decide +kernel)
    (case pgC => k_is)
    (case hdC => k_is)
    (case poC => k_is)
    (case saC => k_is)
    (case mkC => k_is)
    (case kcC => k_is)
    (case pgT => k_is)
    (case hdT => k_is)
    (case poT => k_is)
    (case saT => k_is)
    (case mkT => k_is)
    (case kcT => k_is)
    (case nC1 => k_is)
    (case nC2 => k_is)
    (case nC3 => k_is)
    (case nT1 => k_is)
    (case nT2 => k_is)
    (case iC1 => k_is)
    (case iC2 => first | k_is | rfl | decide +kernel)
    (case iC3 => first | k_is | rfl | decide +kernel)
    (case iC4 => k_is)
    (case iC5 => first | k_is | rfl | decide +kernel)
    (case neC => k_is)
    (case obC => k_is)
    (case xM => k_is)
    (case rvM => first | k_is | rfl | decide +kernel)
    (case saM => k_is)
    (case exM => k_is)
    (case tyM => k_is)
    (case kcM => k_is)
    (case noM => k_is)
    (case gaM => k_is)
    (case ggM => k_is)
    (case hdM => k_is)
    (case icM => k_is)
    (case scM => first | k_is | rfl | decide +kernel)
    (case z_isinstance => k_is)
    (case z_int => k_is)
    (case z_bool => k_is)
    (case z_list => k_is)
    (case z_tuple => k_is)
    (case z_len => k_is)
    (case z_range => k_is)
    (case z_reversed => k_is)
    (case z_min => k_is)
    (case z_max => k_is)
    (case z_abs => k_is)
    (case z_enumerate => k_is)
    (case m_ties => k_is)
    (case m_label => k_is)
    (case m_guests => k_is)
    (case m_like => k_is)
