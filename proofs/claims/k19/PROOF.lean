import PyProof.Rows.All
import Wide.All
import OpenK.AllK
import Wide.FinOn
import HandS.ForMost
import HandS.IsInst
import HandS.Conv
import HandS.TupAny
import HandS.Style
import HandS.SortKw
import HandS.Walk
import HandS.Defaults
import PySem.Challenge.RW_shoporders_k19_whole_sums_on_machines
import KE.GoesEnum
import HandS.Nested
import HandS.Lambda
import KE.SortKeyHeap
import KE.KTupSum
import KE.KStateDown
import KE.KNestM
import Lean
import HandS.Ends
import HandS.More
import HandS.Words
import HandS.WordsExc
import HandS.Head0
import HandS.Head1
import HandS.Head2
import HandS.HeadEnd
import HandS.HeadHook1
import HandS.HeadHook2
import HandS.HeadHook3
import HandS.HeadHook4
import HandS.HeadWalk
set_option Elab.async false
set_option linter.all false
set_option maxRecDepth 100000
/-! K19Math: the plain law: sums of ends on machines side by side; core Lean alone. -/
namespace K19

/-! ### the formula over a falling list: item number at weighs at // m + 1 -/
def G (m : Nat) : Nat → List Int → Int
  | _, [] => 0
  | k, d :: ds => d * ((k / m + 1 : Nat) : Int) + G m (k + 1) ds
/-- the sum of the ends of a list of times -/
def cost : List Int → Int
  | [] => 0
  | x :: xs => x * ((xs.length + 1 : Nat) : Int) + cost xs

theorem sum_app (xs ys : List Int) : (xs ++ ys).sum = xs.sum + ys.sum := by
  induction xs with
  | nil => simp
  | cons x xs ih => simp only [List.cons_append, List.sum_cons, ih]; omega
theorem sum_perm {xs ys : List Int} (h : xs.Perm ys) : xs.sum = ys.sum := by
  induction h with
  | nil => rfl
  | cons x _ ih => simp only [List.sum_cons, ih]
  | swap x y l => simp only [List.sum_cons]; omega
  | trans _ _ ih1 ih2 => exact ih1.trans ih2

theorem G_shift {m : Nat} (hm : 0 < m) : ∀ (ds : List Int) (k : Nat), G m (k + m) ds = G m k ds + ds.sum
  | [], _ => rfl
  | d :: ds, k => by
    have ih := G_shift hm ds (k + 1)
    have e : k + m + 1 = k + 1 + m := by omega
    have e2 : (k + m) / m + 1 = k / m + 1 + 1 := by rw [Nat.add_div_right _ hm]
    simp only [G, List.sum_cons]
    rw [e, ih, e2]
    have e3 : d * ((k / m + 1 + 1 : Nat) : Int) = d * ((k / m + 1 : Nat) : Int) + d := by
      rw [Int.natCast_add, Int.mul_add]
      simp
    rw [e3]
    omega
theorem G_app (m : Nat) : ∀ (xs ys : List Int) (k : Nat), G m k (xs ++ ys) = G m k xs + G m (k + xs.length) ys
  | [], ys, k => by simp [G]
  | x :: xs, ys, k => by
    have ih := G_app m xs ys (k + 1)
    have e : k + 1 + xs.length = k + (x :: xs).length := by simp; omega
    simp only [List.cons_append, G]
    rw [ih, e]
    omega
theorem G_low {m : Nat} (hm : 0 < m) : ∀ (xs : List Int) (k : Nat), k + xs.length ≤ m → G m k xs = xs.sum
  | [], _, _ => rfl
  | x :: xs, k, h => by
    have h' : k + (xs.length + 1) ≤ m := h
    have ih := G_low hm xs (k + 1) (by omega)
    have e : k / m = 0 := Nat.div_eq_of_lt (by omega)
    simp only [G, List.sum_cons, ih, e]
    simp
theorem G_drop {m : Nat} (hm : 0 < m) (ds : List Int) : G m 0 ds = ds.sum + G m 0 (ds.drop m) := by
  have h1 : G m 0 ds = G m 0 (ds.take m) + G m (0 + (ds.take m).length) (ds.drop m) := by
    rw [← G_app, List.take_append_drop]
  have hs : ds.sum = (ds.take m).sum + (ds.drop m).sum := by
    rw [← sum_app, List.take_append_drop]
  have h2 : G m 0 (ds.take m) = (ds.take m).sum := G_low hm _ 0 (by rw [List.length_take]; omega)
  by_cases hl : ds.length ≤ m
  · have e : ds.drop m = [] := List.drop_eq_nil_of_le hl
    rw [h1, hs, h2, e]
    simp [G]
  · have e : 0 + (ds.take m).length = 0 + m := by rw [List.length_take]; omega
    rw [h1, e, G_shift hm, h2, hs]
    omega

theorem cost_snoc : ∀ (xs : List Int) (x : Int), cost (xs ++ [x]) = cost xs + (xs.sum + x)
  | [], x => by simp [cost]
  | y :: ys, x => by
    have ih := cost_snoc ys x
    simp only [List.cons_append, cost, ih, List.sum_cons, List.length_append, List.length_cons, List.length_nil]
    have e3 : y * ((ys.length + (0 + 1) + 1 : Nat) : Int) = y * ((ys.length + 1 : Nat) : Int) + y := by
      rw [Int.natCast_add, Int.mul_add]
      simp
    rw [e3]
    omega
theorem cost_dropLast (xs : List Int) : cost xs = xs.sum + cost xs.dropLast := by
  by_cases h : xs = []
  · subst h; rfl
  · have e : xs = xs.dropLast ++ [xs.getLast h] := (List.dropLast_concat_getLast h).symm
    have e2 : cost xs = cost xs.dropLast + (xs.dropLast.sum + xs.getLast h) := by
      rw [← cost_snoc, ← e]
    have e3 : xs.sum = xs.dropLast.sum + xs.getLast h := by
      have : xs.sum = (xs.dropLast ++ [xs.getLast h]).sum := by rw [← e]
      rw [this, sum_app]; simp
    omega

/-! ### one list nowhere below another -/
inductive Dom : List Int → List Int → Prop where
  | nil (a : List Int) : Dom a []
  | cons {x y : Int} {a b : List Int} (h : y ≤ x) (t : Dom a b) : Dom (x :: a) (y :: b)
theorem Dom.refl : ∀ a, Dom a a
  | [] => .nil _
  | _ :: a => .cons (Int.le_refl _) (Dom.refl a)
theorem Dom.trans : ∀ {a b c : List Int}, Dom a b → Dom b c → Dom a c
  | _, _, _, _, .nil _ => .nil _
  | _, _, _, .cons h t, .cons h' t' => .cons (Int.le_trans h' h) (Dom.trans t t')
theorem Dom.tail : ∀ {a b : List Int}, Dom a b → Dom (a.drop 1) (b.drop 1)
  | _, _, .nil _ => by simp; exact .nil _
  | _, _, .cons _ t => by simpa using t
theorem G_nonneg (m : Nat) : ∀ (a : List Int) (k : Nat), (∀ x ∈ a, 0 ≤ x) → 0 ≤ G m k a
  | [], _, _ => Int.le_refl _
  | x :: a, k, h => by
    have ih := G_nonneg m a (k + 1) fun y hy => h y (List.mem_cons_of_mem _ hy)
    have h0 : 0 ≤ x * ((k / m + 1 : Nat) : Int) := Int.mul_nonneg (h x List.mem_cons_self) (Int.natCast_nonneg _)
    simp only [G]
    omega
theorem Dom.G_le (m : Nat) : ∀ {a b : List Int} (k : Nat), Dom a b → (∀ x ∈ a, 0 ≤ x) → K19.G m k b ≤ K19.G m k a
  | a, _, k, .nil _, h => G_nonneg m a k h
  | _, _, k, @Dom.cons x y a b hxy t, h => by
    have ih := Dom.G_le m (k + 1) t fun z hz => h z (List.mem_cons_of_mem _ hz)
    have h0 : y * ((k / m + 1 : Nat) : Int) ≤ x * ((k / m + 1 : Nat) : Int) := Int.mul_le_mul_of_nonneg_right hxy (Int.natCast_nonneg _)
    simp only [K19.G]
    omega
abbrev Falling (a : List Int) : Prop := a.Pairwise (· ≥ ·)
theorem Dom.erase : ∀ {ds : List Int} (x : Int), Falling ds → Dom (ds.erase x) (ds.drop 1)
  | [], _, _ => .nil _
  | d :: r, x, h => by
    rw [List.erase_cons]
    split
    · simpa using Dom.refl r
    · show Dom (d :: r.erase x) r
      cases r with
      | nil => exact .nil _
      | cons e r' =>
        have h1 := List.pairwise_cons.mp h
        refine .cons (h1.1 e List.mem_cons_self) ?_
        simpa using Dom.erase (ds := e :: r') x h1.2
theorem Dom.drop : ∀ (k : Nat) {b : List Int}, Falling b → Dom b (b.drop k)
  | 0, b, _ => by simpa using Dom.refl b
  | k + 1, [], _ => by simp; exact .nil _
  | k + 1, x :: r, h => by
    have h1 := List.pairwise_cons.mp h
    rw [List.drop_succ_cons]
    cases e : r.drop k with
    | nil => exact .nil _
    | cons y t =>
      have hy : y ∈ r := List.mem_of_mem_drop (by rw [e]; exact List.mem_cons_self)
      have ht : r.drop (k + 1) = t := by
        have : (r.drop k).drop 1 = t := by rw [e]; rfl
        rw [← this, List.drop_drop]
      refine .cons (h1.1 y hy) ?_
      rw [← ht]
      exact Dom.drop (k + 1) h1.2

/-! ### the least sum of ends -/
theorem erase_many {ds rest : List Int} : ∀ (xs e : List Int) (j : Nat), e.Perm (xs ++ rest) → Falling e → Dom e (ds.drop j) →
    ∃ e' : List Int, e'.Perm rest ∧ Falling e' ∧ (∀ x ∈ e', x ∈ e) ∧ Dom e' (ds.drop (j + xs.length))
  | [], e, j, hp, hs, hd => ⟨e, hp, hs, fun _ h => h, by simpa using hd⟩
  | x :: xs, e, j, hp, hs, hd => by
    have hp1 : (e.erase x).Perm (xs ++ rest) := by
      have := hp.erase x
      simpa using this
    have hs1 : Falling (e.erase x) := hs.sublist List.erase_sublist
    have hd1 : Dom (e.erase x) (ds.drop (j + 1)) := by
      have h1 := (Dom.erase x hs).trans hd.tail
      rw [List.drop_drop] at h1
      exact h1
    obtain ⟨e', k1, k2, k3, k4⟩ := erase_many xs (e.erase x) (j + 1) hp1 hs1 hd1
    refine ⟨e', k1, k2, fun y hy => List.mem_of_mem_erase (k3 y hy), ?_⟩
    have q : j + 1 + xs.length = j + (x :: xs).length := by simp; omega
    rw [← q]
    exact k4
theorem lasts : ∀ L : List (List Int), ∃ xs : List Int, xs.length ≤ L.length ∧ (L.flatten ≠ [] → xs ≠ []) ∧ (L.flatten).Perm (xs ++ (L.map List.dropLast).flatten) ∧
    (L.map cost).sum = L.flatten.sum + ((L.map List.dropLast).map cost).sum
  | [] => ⟨[], Nat.le_refl _, fun h => absurd rfl h, List.Perm.refl _, rfl⟩
  | l :: L => by
    obtain ⟨xs, h1, h2, h3, h4⟩ := lasts L
    by_cases hl : l = []
    · subst hl
      refine ⟨xs, Nat.le_succ_of_le h1, fun h => h2 (by simpa using h), by simpa using h3, ?_⟩
      simp only [List.map_cons, List.sum_cons, List.flatten_cons, sum_app, h4]
      simp [cost]
    · refine ⟨l.getLast hl :: xs, by simpa using h1, fun _ => by simp, ?_, ?_⟩
      · have e : l = l.dropLast ++ [l.getLast hl] := (List.dropLast_concat_getLast hl).symm
        simp only [List.map_cons, List.flatten_cons]
        have p1 : (l ++ L.flatten).Perm (l.dropLast ++ ([l.getLast hl] ++ L.flatten)) := by
          rw [← List.append_assoc, ← e]
        refine p1.trans ?_
        have p2 : (l.dropLast ++ ([l.getLast hl] ++ L.flatten)).Perm (([l.getLast hl] ++ L.flatten) ++ l.dropLast) := List.perm_append_comm
        refine p2.trans ?_
        show ((l.getLast hl :: L.flatten) ++ l.dropLast).Perm (l.getLast hl :: xs ++ (l.dropLast ++ (L.map List.dropLast).flatten))
        refine List.Perm.cons _ ?_
        have p3 : (L.flatten ++ l.dropLast).Perm ((xs ++ (L.map List.dropLast).flatten) ++ l.dropLast) := h3.append_right _
        refine p3.trans ?_
        rw [List.append_assoc]
        exact List.Perm.append_left _ List.perm_append_comm
      · simp only [List.map_cons, List.sum_cons, List.flatten_cons, sum_app, h4]
        rw [cost_dropLast l]
        omega
theorem cost_nils : ∀ L : List (List Int), L.flatten = [] → (L.map cost).sum = 0
  | [], _ => rfl
  | l :: L, h => by
    have h' : l = [] ∧ L.flatten = [] := by simpa using h
    rw [h'.1]
    simp [cost, cost_nils L h'.2]
theorem lower_aux {m : Nat} (hm : 0 < m) : ∀ (n : Nat) (L : List (List Int)) (ds : List Int), ds.length ≤ n → L.length ≤ m → ds.Perm L.flatten → Falling ds → (∀ x ∈ ds, 0 ≤ x) →
    G m 0 ds ≤ (L.map cost).sum
  | 0, L, ds, hn, _, hp, _, _ => by
    have e : ds = [] := List.eq_nil_of_length_eq_zero (by omega)
    subst e
    rw [cost_nils L hp.symm.eq_nil]
    exact Int.le_refl _
  | n + 1, L, ds, hn, hL, hp, hs, h0 => by
    by_cases he : ds = []
    · subst he
      rw [cost_nils L hp.symm.eq_nil]
      exact Int.le_refl _
    · obtain ⟨xs, k1, k2, k3, k4⟩ := lasts L
      have hne : L.flatten ≠ [] := fun z => he (by rw [z] at hp; exact hp.eq_nil)
      have hx : 0 < xs.length := List.length_pos_iff.mpr (k2 hne)
      obtain ⟨e, q1, q2, q3, q4⟩ := erase_many (ds := ds) xs ds 0 (hp.trans k3) hs (by simpa using Dom.refl ds)
      have hlen : ds.length = xs.length + e.length := by
        rw [(hp.trans k3).length_eq, List.length_append, q1.length_eq]
      have ih := lower_aux hm n (L.map List.dropLast) e (by omega) (by rw [List.length_map]; exact hL) q1 q2 fun x hx => h0 x (q3 x hx)
      have e0 : ∀ x ∈ e, 0 ≤ x := fun x hx => h0 x (q3 x hx)
      have d1 : Dom (ds.drop xs.length) (ds.drop m) := by
        have := Dom.drop (m - xs.length) (b := ds.drop xs.length) (hs.sublist (List.drop_sublist _ _))
        rw [List.drop_drop] at this
        have q : xs.length + (m - xs.length) = m := by omega
        rw [q] at this
        exact this
      have d2 : Dom e (ds.drop m) := Dom.trans (by simpa using q4) d1
      have g := Dom.G_le m 0 d2 e0
      have s := sum_perm hp
      rw [G_drop hm ds, k4]
      omega
/-- on m machines no lists have a lesser sum of ends than the formula over the falling times -/
theorem lower {m : Nat} (hm : 0 < m) {L : List (List Int)} {ds : List Int} (hL : L.length ≤ m) (hp : ds.Perm L.flatten) (hs : Falling ds) (h0 : ∀ x ∈ ds, 0 ≤ x) : G m 0 ds ≤ (L.map cost).sum :=
  lower_aux hm ds.length L ds (Nat.le_refl _) hL hp hs h0

abbrev Rising (a : List Int) : Prop := a.Pairwise (· ≤ ·)
theorem cost_rev : ∀ ds : List Int, cost ds.reverse = G 1 0 ds
  | [] => rfl
  | d :: ds => by
    have ih := cost_rev ds
    have e : G 1 (0 + 1) ds = G 1 0 ds + ds.sum := G_shift (m := 1) (by decide) ds 0
    have s : ds.reverse.sum = ds.sum := sum_perm (List.reverse_perm ds)
    rw [List.reverse_cons, cost_snoc, ih, s]
    simp only [G, e]
    simp
    omega
/-- the rising order is a best one on one machine -/
theorem rising_least {xs ys : List Int} (hp : ys.Perm xs) (hs : Rising ys) (h0 : ∀ x ∈ xs, 0 ≤ x) : cost ys ≤ cost xs := by
  have e : cost ys = G 1 0 ys.reverse := by rw [← cost_rev, List.reverse_reverse]
  rw [e]
  have hf : Falling ys.reverse := List.pairwise_reverse.mpr hs
  have := lower (m := 1) (by decide) (L := [xs]) (ds := ys.reverse) (by simp) (by simpa using (List.reverse_perm ys).trans hp) hf
    (fun x hx => h0 x (hp.mem_iff.mp (by simpa using hx)))
  simpa using this
/-- the least sum of ends of one machine's jobs -/
def least (xs : List Int) : Int := cost (xs.mergeSort fun a b => decide (a ≤ b))
theorem sort_rising (xs : List Int) : Rising (xs.mergeSort fun a b => decide (a ≤ b)) := by
  have := List.pairwise_mergeSort (le := fun a b : Int => decide (a ≤ b)) (fun a b c h1 h2 => by simp at *; omega) (fun a b => by simp; omega) xs
  exact this.imp fun h => by simpa using h
theorem least_le {xs : List Int} (h0 : ∀ x ∈ xs, 0 ≤ x) : least xs ≤ cost xs := rising_least (List.mergeSort_perm _ _) (sort_rising xs) h0
theorem least_eq {xs ys : List Int} (hp : ys.Perm xs) (hs : Rising ys) (h0 : ∀ x ∈ xs, 0 ≤ x) : cost ys = least xs := by
  refine Int.le_antisymm ?_ ?_
  · exact rising_least (hp.trans (List.mergeSort_perm _ _).symm) hs fun x hx => h0 x ((List.mergeSort_perm _ _).mem_iff.mp hx)
  · exact rising_least ((List.mergeSort_perm _ _).trans hp.symm) (sort_rising xs) fun x hx => h0 x (hp.mem_iff.mp hx)
theorem least_perm {xs ys : List Int} (hp : ys.Perm xs) (h0 : ∀ x ∈ xs, 0 ≤ x) : least ys = least xs :=
  least_eq ((List.mergeSort_perm _ _).trans hp) (sort_rising ys) h0

/-! ### assignments -/
/-- the jobs of xs that f puts on machine i -/
def on (f : Nat → Nat) (xs : List Nat) (i : Nat) : List Nat := xs.filter fun j => f j == i
theorem below_succ (f : Nat → Nat) (m : Nat) : ∀ xs : List Nat, (xs.filter fun j => decide (f j < m + 1)).Perm ((xs.filter fun j => decide (f j < m)) ++ on f xs m)
  | [] => List.Perm.refl _
  | x :: xs => by
    have ih := below_succ f m xs
    unfold on at ih ⊢
    by_cases h1 : f x < m
    · have h2 : f x < m + 1 := by omega
      have h3 : ¬ f x = m := by omega
      simp only [List.filter_cons, decide_eq_true h1, decide_eq_true h2, if_true, beq_eq_false_iff_ne.mpr h3, Bool.false_eq_true, if_false, List.cons_append]
      exact ih.cons x
    · by_cases h3 : f x = m
      · have h2 : f x < m + 1 := by omega
        have h4 : (f x == m) = true := beq_iff_eq.mpr h3
        simp only [List.filter_cons, decide_eq_false h1, decide_eq_true h2, if_true, h4, Bool.false_eq_true, if_false]
        exact (ih.cons x).trans List.perm_middle.symm
      · have h2 : ¬ f x < m + 1 := by omega
        simp only [List.filter_cons, decide_eq_false h1, decide_eq_false h2, beq_eq_false_iff_ne.mpr h3, Bool.false_eq_true, if_false]
        exact ih
theorem on_flat (f : Nat → Nat) (xs : List Nat) : ∀ m : Nat, ((List.range m).map (on f xs)).flatten.Perm (xs.filter fun j => decide (f j < m))
  | 0 => by simp
  | m + 1 => by
    have ih := on_flat f xs m
    rw [List.range_succ, List.map_append, List.flatten_append]
    simp only [List.map_cons, List.map_nil, List.flatten_cons, List.flatten_nil, List.append_nil]
    exact (ih.append_right _).trans (below_succ f m xs).symm
theorem on_all {f : Nat → Nat} {xs : List Nat} {m : Nat} (h : ∀ j ∈ xs, f j < m) : ((List.range m).map (on f xs)).flatten.Perm xs := by
  refine (on_flat f xs m).trans ?_
  rw [List.filter_eq_self.mpr fun j hj => decide_eq_true (h j hj)]

/-- a job's time -/
def tm (ts : List Int) (j : Nat) : Int := ts.getD j 0
theorem tm_range (ts : List Int) : (List.range ts.length).map (tm ts) = ts := by
  apply List.ext_getElem
  · simp
  · intro i h1 h2
    simp [tm, List.getD_eq_getElem?_getD, List.getElem?_eq_getElem h2]
theorem tm_nonneg {ts : List Int} (h0 : ∀ x ∈ ts, 0 ≤ x) (j : Nat) : 0 ≤ tm ts j := by
  unfold tm
  rw [List.getD_eq_getElem?_getD]
  cases e : ts[j]? with
  | none => simp
  | some v => exact h0 v (List.mem_of_getElem? e)
theorem map_tm_nonneg {ts : List Int} (h0 : ∀ x ∈ ts, 0 ≤ x) (js : List Nat) : ∀ x ∈ js.map (tm ts), 0 ≤ x := fun x hx => by
  obtain ⟨j, _, rfl⟩ := List.mem_map.mp hx
  exact tm_nonneg h0 j
/-- the sum of ends of lists of jobs -/
def ends (ts : List Int) (L : List (List Nat)) : Int := (L.map fun l => cost (l.map (tm ts))).sum
/-- the least sum of ends of an assignment: each machine in the rising order -/
def total (ts : List Int) (m : Nat) (f : Nat → Nat) : Int := ((List.range m).map fun i => least ((on f (List.range ts.length) i).map (tm ts))).sum

theorem flat_map {α β : Type} (g : α → β) (L : List (List α)) : (L.map (List.map g)).flatten = L.flatten.map g := by
  rw [List.map_flatten]
theorem ends_lower {ts ds : List Int} {m : Nat} {L : List (List Nat)} (hm : 0 < m) (h0 : ∀ x ∈ ts, 0 ≤ x) (hL : L.length ≤ m) (hp : L.flatten.Perm (List.range ts.length)) (hd : ds.Perm ts) (hs : Falling ds) : G m 0 ds ≤ ends ts L := by
  have h1 := lower (m := m) hm (L := L.map (List.map (tm ts))) (ds := ds) (by rw [List.length_map]; exact hL) (by
    rw [flat_map]
    refine hd.trans ?_
    have := (hp.map (tm ts)).symm
    rw [tm_range] at this
    exact this) hs fun x hx => h0 x (hd.mem_iff.mp hx)
  rw [List.map_map] at h1
  exact h1
theorem sum_map_le {α : Type} {f g : α → Int} : ∀ {l : List α}, (∀ x ∈ l, f x ≤ g x) → (l.map f).sum ≤ (l.map g).sum
  | [], _ => Int.le_refl _
  | x :: l, h => by
    have h1 := h x List.mem_cons_self
    have h2 := sum_map_le (l := l) fun y hy => h y (List.mem_cons_of_mem _ hy)
    simp only [List.map_cons, List.sum_cons]
    omega
theorem sum_map_eq {α : Type} {f g : α → Int} {l : List α} (h : ∀ x ∈ l, f x = g x) : (l.map f).sum = (l.map g).sum := by
  rw [List.map_congr_left h]
theorem flatten_perm {α : Type} {f g : Nat → List α} : ∀ {l : List Nat}, (∀ x ∈ l, (f x).Perm (g x)) → (l.map f).flatten.Perm (l.map g).flatten
  | [], _ => List.Perm.refl _
  | x :: l, h => by
    simp only [List.map_cons, List.flatten_cons]
    exact (h x List.mem_cons_self).append (flatten_perm fun y hy => h y (List.mem_cons_of_mem _ hy))
/-- no assignment is below the formula -/
theorem total_lower {ts ds : List Int} {m : Nat} {f : Nat → Nat} (hm : 0 < m) (h0 : ∀ x ∈ ts, 0 ≤ x) (hf : ∀ j, j < ts.length → f j < m) (hd : ds.Perm ts) (hs : Falling ds) : G m 0 ds ≤ total ts m f := by
  have h1 := lower (m := m) hm (L := (List.range m).map fun i => ((on f (List.range ts.length) i).map (tm ts)).mergeSort fun a b => decide (a ≤ b)) (ds := ds) (by simp) (by
    refine hd.trans ?_
    refine List.Perm.trans ?_ (flatten_perm (f := fun i => (on f (List.range ts.length) i).map (tm ts)) fun i _ => (List.mergeSort_perm _ _).symm)
    have e : ((List.range m).map fun i => (on f (List.range ts.length) i).map (tm ts)).flatten = (((List.range m).map (on f (List.range ts.length))).flatten).map (tm ts) := by
      rw [← flat_map, List.map_map]
      rfl
    rw [e]
    have := ((on_all (f := f) (xs := List.range ts.length) (m := m) fun j hj => hf j (List.mem_range.mp hj)).map (tm ts)).symm
    rw [tm_range] at this
    exact this) hs fun x hx => h0 x (hd.mem_iff.mp hx)
  rw [List.map_map] at h1
  exact h1
/-- the machine of a job in lists -/
def place (L : List (List Nat)) (j : Nat) : Nat := L.findIdx fun l => l.contains j
theorem place_at : ∀ {L : List (List Nat)} {i j : Nat} {l : List Nat}, L.flatten.Nodup → L[i]? = some l → (place L j = i ∧ j ∈ L.flatten ↔ j ∈ l)
  | [], _, _, _, _, h => by simp at h
  | l0 :: L, 0, j, l, hn, h => by
    have e : l0 = l := by simpa using h
    subst e
    unfold place
    rw [List.findIdx_cons]
    by_cases hj : j ∈ l0
    · have : l0.contains j = true := by simpa using hj
      simp [this, hj]
    · have : l0.contains j = false := by simpa using hj
      simp [this, hj]
  | l0 :: L, i + 1, j, l, hn, h => by
    have h' : L[i]? = some l := by simpa using h
    have hn' : L.flatten.Nodup ∧ ∀ x ∈ l0, x ∉ L.flatten := by
      rw [List.flatten_cons, List.nodup_append] at hn
      exact ⟨hn.2.1, fun x hx hy => hn.2.2 x hx x hy rfl⟩
    have ih := place_at (j := j) hn'.1 h'
    have hl : l ∈ L := List.mem_of_getElem? h'
    unfold place at ih ⊢
    rw [List.findIdx_cons]
    by_cases hj : j ∈ l0
    · have hc : l0.contains j = true := by simpa using hj
      have hno : j ∉ l := fun z => hn'.2 j hj (List.mem_flatten.mpr ⟨l, hl, z⟩)
      simp [hj, hno]
    · have hc : l0.contains j = false := by simpa using hj
      rw [hc, ← ih]
      simp [hj]
theorem place_lt {L : List (List Nat)} {j : Nat} (h : j ∈ L.flatten) : place L j < L.length := by
  obtain ⟨l, hl, hj⟩ := List.mem_flatten.mp h
  exact List.findIdx_lt_length_of_exists ⟨l, hl, by simpa using hj⟩
theorem nodup_perm {α : Type} [DecidableEq α] {xs ys : List α} (hx : xs.Nodup) (hy : ys.Nodup) (h : ∀ a, a ∈ xs ↔ a ∈ ys) : xs.Perm ys := by
  rw [List.perm_iff_count]
  intro a
  by_cases ha : a ∈ xs
  · rw [hx.count, hy.count, if_pos ha, if_pos ((h a).mp ha)]
  · rw [hx.count, hy.count, if_neg ha, if_neg fun z => ha ((h a).mpr z)]
theorem range_nodup (n : Nat) : (List.range n).Nodup := List.nodup_range
/-- the assignment of lists is not above them -/
theorem total_place {ts : List Int} {m : Nat} {L : List (List Nat)} (h0 : ∀ x ∈ ts, 0 ≤ x) (hL : L.length = m) (hp : L.flatten.Perm (List.range ts.length)) : total ts m (place L) ≤ ends ts L := by
  have hn : L.flatten.Nodup := hp.nodup_iff.mpr (range_nodup _)
  have key : ∀ i, (h : i < L.length) → (on (place L) (List.range ts.length) i).Perm L[i] := fun i h => by
    have hl : L[i]? = some L[i] := List.getElem?_eq_getElem h
    refine nodup_perm ((range_nodup _).sublist List.filter_sublist) ?_ fun j => ?_
    · have : (L[i]).Sublist L.flatten := List.sublist_flatten_of_mem (List.getElem_mem h)
      exact hn.sublist this
    · rw [← place_at hn hl]
      unfold on
      rw [List.mem_filter, hp.mem_iff, and_comm, beq_iff_eq]
  unfold total ends
  have e : (L.map fun l => cost (l.map (tm ts))) = (List.range m).map fun i => cost ((L.getD i []).map (tm ts)) := by
    subst hL
    apply List.ext_getElem
    · simp
    · intro i h1 h2
      have h3 : i < L.length := by simpa using h1
      simp [List.getD_eq_getElem?_getD, List.getElem?_eq_getElem h3]
  rw [e]
  refine sum_map_le fun i hi => ?_
  have hi' : i < L.length := by rw [hL]; exact List.mem_range.mp hi
  have eg : L.getD i [] = L[i] := by simp [List.getD_eq_getElem?_getD, List.getElem?_eq_getElem hi']
  rw [eg, least_perm ((key i hi').map (tm ts)) (map_tm_nonneg h0 _)]
  exact least_le (map_tm_nonneg h0 _)
theorem place_ok {n m : Nat} {L : List (List Nat)} (hL : L.length = m) (hp : L.flatten.Perm (List.range n)) {j : Nat} (hj : j < n) : place L j < m := by
  rw [← hL]
  exact place_lt (hp.mem_iff.mpr (List.mem_range.mpr hj))

/-! ### the rounds -/
theorem falling_unique : ∀ {xs ys : List Int}, xs.Perm ys → Falling xs → Falling ys → xs = ys
  | [], ys, hp, _, _ => hp.symm.eq_nil.symm
  | x :: xs, [], hp, _, _ => absurd hp.eq_nil (by simp)
  | x :: xs, y :: ys, hp, hx, hy => by
    have h1 := List.pairwise_cons.mp hx
    have h2 := List.pairwise_cons.mp hy
    have e : x = y := by
      have a : x ≤ y := by
        rcases List.mem_cons.mp (hp.mem_iff.mp (List.mem_cons_self (a := x) (l := xs))) with z | z
        · omega
        · exact h2.1 x z
      have b : y ≤ x := by
        rcases List.mem_cons.mp (hp.mem_iff.mpr (List.mem_cons_self (a := y) (l := ys))) with z | z
        · omega
        · exact h1.1 y z
      omega
    subst e
    rw [falling_unique hp.cons_inv h1.2 h2.2]
/-- every m-th item from the i-th on (i < m) -/
def rounds (xs : List Nat) (m i : Nat) : List Nat := (on (fun k => k % m) (List.range xs.length) i).map fun k => xs.getD k 0
theorem getD_range (xs : List Nat) : (List.range xs.length).map (fun k => xs.getD k 0) = xs := by
  apply List.ext_getElem
  · simp
  · intro i h1 h2
    simp [List.getD_eq_getElem?_getD, List.getElem?_eq_getElem h2]
theorem rounds_flat {xs : List Nat} {m : Nat} (hm : 0 < m) : ((List.range m).map (rounds xs m)).flatten.Perm xs := by
  have e : ((List.range m).map (rounds xs m)).flatten = (((List.range m).map (on (fun k => k % m) (List.range xs.length))).flatten).map fun k => xs.getD k 0 := by
    rw [← flat_map, List.map_map]
    rfl
  rw [e]
  have := (on_all (f := fun k => k % m) (xs := List.range xs.length) (m := m) fun j _ => Nat.mod_lt _ hm).map fun k => xs.getD k 0
  rw [getD_range] at this
  exact this
theorem rounds_ends {ts : List Int} {xs : List Nat} {m : Nat} (h1 : 1 ≤ m) (h3 : m ≤ 3) (hx : xs.length ≤ 5) : ends ts ((List.range m).map (rounds xs m)) = G m 0 (xs.map (tm ts)).reverse := by
  have hm : m = 1 ∨ m = 2 ∨ m = 3 := by omega
  have r1 : List.range 1 = [0] := by decide
  have r2 : List.range 2 = [0, 1] := by decide
  have r3 : List.range 3 = [0, 1, 2] := by decide
  have r4 : List.range 4 = [0, 1, 2, 3] := by decide
  have r5 : List.range 5 = [0, 1, 2, 3, 4] := by decide
  rcases xs with _ | ⟨a, _ | ⟨b, _ | ⟨c, _ | ⟨d, _ | ⟨e, _ | ⟨f, xs⟩⟩⟩⟩⟩⟩
  · rcases hm with rfl | rfl | rfl <;> simp [ends, rounds, on, cost, G, r1, r2, r3]
  · rcases hm with rfl | rfl | rfl <;> simp [ends, rounds, on, cost, G, r1, r2, r3]
  · rcases hm with rfl | rfl | rfl <;> simp [ends, rounds, on, cost, G, r1, r2, r3] <;> omega
  · rcases hm with rfl | rfl | rfl <;> simp [ends, rounds, on, cost, G, r1, r2, r3] <;> omega
  · rcases hm with rfl | rfl | rfl <;> simp [ends, rounds, on, cost, G, r1, r2, r3, r4] <;> omega
  · rcases hm with rfl | rfl | rfl <;> simp [ends, rounds, on, cost, G, r1, r2, r3, r4, r5] <;> omega
  · simp at hx
/-- what short_lists gives has the formula's sum -/
theorem short_ends {ts ds : List Int} {xs : List Nat} {m : Nat} (h1 : 1 ≤ m) (h3 : m ≤ 3) (hn : ts.length ≤ 5) (hp : xs.Perm (List.range ts.length)) (hr : Rising (xs.map (tm ts))) (hd : ds.Perm ts) (hs : Falling ds) :
    ends ts ((List.range m).map (rounds xs m)) = G m 0 ds := by
  rw [rounds_ends h1 h3 (by rw [hp.length_eq, List.length_range]; exact hn)]
  congr 1
  refine falling_unique ?_ (List.pairwise_reverse.mpr hr) hs
  refine (List.reverse_perm _).trans (List.Perm.trans ?_ hd.symm)
  have := hp.map (tm ts)
  rw [tm_range] at this
  exact this

/-! ### all assignments, as the law makes them -/
def grow (m : Nat) (ps : List (List Nat)) : List (List Nat) := ps.flatMap fun p => (List.range m).map fun a => p ++ [a]
def parts (m : Nat) : Nat → List (List Nat)
  | 0 => [[]]
  | n + 1 => grow m (parts m n)
theorem parts_mem {m : Nat} : ∀ {n : Nat} {p : List Nat}, p ∈ parts m n ↔ p.length = n ∧ ∀ a ∈ p, a < m
  | 0, p => by
    simp only [parts, List.mem_singleton]
    constructor
    · rintro rfl; simp
    · rintro ⟨h, _⟩; exact List.eq_nil_of_length_eq_zero h
  | n + 1, p => by
    simp only [parts, grow, List.mem_flatMap, List.mem_map, List.mem_range]
    constructor
    · rintro ⟨q, hq, a, ha, rfl⟩
      obtain ⟨h1, h2⟩ := parts_mem.mp hq
      refine ⟨by simp [h1], fun b hb => ?_⟩
      rcases List.mem_append.mp hb with z | z
      · exact h2 b z
      · have : b = a := by simpa using z
        omega
    · rintro ⟨h1, h2⟩
      have hne : p ≠ [] := fun z => by subst z; simp at h1
      have e : p.dropLast ++ [p.getLast hne] = p := List.dropLast_concat_getLast hne
      refine ⟨p.dropLast, parts_mem.mpr ⟨by rw [List.length_dropLast]; omega, fun a ha => h2 a ((List.dropLast_sublist p).mem ha)⟩, p.getLast hne, h2 _ (List.getLast_mem hne), e⟩
theorem grow_length (m : Nat) : ∀ ps : List (List Nat), (grow m ps).length = ps.length * m
  | [] => by simp [grow]
  | p :: ps => by
    have ih := grow_length m ps
    unfold grow at ih ⊢
    rw [List.flatMap_cons, List.length_append, ih, List.length_map, List.length_range, List.length_cons, Nat.succ_mul]
    omega
theorem parts_length (m : Nat) : ∀ n, (parts m n).length = m ^ n
  | 0 => rfl
  | n + 1 => by rw [parts, grow_length, parts_length m n, Nat.pow_succ]
theorem parts_small {m n : Nat} (h3 : m ≤ 3) (hn : n ≤ 5) : (parts m n).length ≤ 243 := by
  rw [parts_length]
  have a : m ^ n ≤ 3 ^ n := Nat.pow_le_pow_left h3 n
  have b : 3 ^ n ≤ 3 ^ 5 := Nat.pow_le_pow_right (by decide) hn
  omega
/-- a part as an assignment -/
def asg (p : List Nat) (j : Nat) : Nat := p.getD j 0
/-- the least over a list, as the law takes it -/
def least? : List Int → Option Int
  | [] => none
  | x :: xs => some (xs.foldl (fun a b => if b < a then b else a) x)
def step? (o : Option Int) (t : Int) : Option Int := match o with
  | none => some t
  | some b => some (if t < b then t else b)
def best? (xs : List Int) : Option Int := xs.foldl step? none
theorem best_fold : ∀ (xs : List Int) (b : Int), ∃ c, xs.foldl step? (some b) = some c ∧ c ≤ b ∧ (∀ x ∈ xs, c ≤ x) ∧ (c = b ∨ c ∈ xs)
  | [], b => ⟨b, rfl, Int.le_refl _, by simp, .inl rfl⟩
  | x :: xs, b => by
    obtain ⟨c, h1, h2, h3, h4⟩ := best_fold xs (if x < b then x else b)
    refine ⟨c, h1, ?_, fun y hy => ?_, ?_⟩
    · split at h2 <;> omega
    · rcases List.mem_cons.mp hy with z | z
      · subst z
        split at h2 <;> omega
      · exact h3 y z
    · rcases h4 with z | z
      · split at z
        · exact .inr (by rw [z]; exact List.mem_cons_self)
        · exact .inl z
      · exact .inr (List.mem_cons_of_mem _ z)
theorem best_is {xs : List Int} {F : Int} (hl : ∀ x ∈ xs, F ≤ x) (hm : ∃ x ∈ xs, x ≤ F) : best? xs = some F := by
  cases xs with
  | nil => obtain ⟨x, hx, _⟩ := hm; cases hx
  | cons y ys =>
    obtain ⟨c, h1, h2, h3, h4⟩ := best_fold ys y
    have e : best? (y :: ys) = some c := h1
    rw [e]
    congr 1
    obtain ⟨x, hx, hxF⟩ := hm
    have a : F ≤ c := by
      rcases h4 with z | z
      · rw [z]; exact hl y List.mem_cons_self
      · exact hl c (List.mem_cons_of_mem _ z)
    have b : c ≤ x := by
      rcases List.mem_cons.mp hx with z | z
      · omega
      · exact h3 x z
    omega
theorem best_snoc (xs : List Int) (x : Int) : best? (xs ++ [x]) = step? (best? xs) x := by
  unfold best?
  rw [List.foldl_append]
  rfl
/-- the least over all assignments is the formula, where lists have the formula's sum -/
theorem best_parts {ts ds : List Int} {m : Nat} {L : List (List Nat)} (hm : 0 < m) (h0 : ∀ x ∈ ts, 0 ≤ x) (hd : ds.Perm ts) (hs : Falling ds) (hL : L.length = m) (hp : L.flatten.Perm (List.range ts.length)) (he : ends ts L = G m 0 ds) :
    best? ((parts m ts.length).map fun p => total ts m (asg p)) = some (G m 0 ds) := by
  refine best_is (fun x hx => ?_) ?_
  · obtain ⟨p, hpm, rfl⟩ := List.mem_map.mp hx
    obtain ⟨h1, h2⟩ := parts_mem.mp hpm
    refine total_lower hm h0 (fun j hj => ?_) hd hs
    unfold asg
    rw [List.getD_eq_getElem?_getD, List.getElem?_eq_getElem (by omega)]
    exact h2 _ (List.getElem_mem _)
  · refine ⟨total ts m (asg ((List.range ts.length).map (place L))), List.mem_map.mpr ⟨_, parts_mem.mpr ⟨by simp, fun a ha => ?_⟩, rfl⟩, ?_⟩
    · obtain ⟨j, hj, rfl⟩ := List.mem_map.mp ha
      exact place_ok hL hp (List.mem_range.mp hj)
    · have e : total ts m (asg ((List.range ts.length).map (place L))) = total ts m (place L) := by
        unfold total
        refine sum_map_eq fun i _ => ?_
        congr 2
        unfold on
        refine List.filter_congr fun j hj => ?_
        have hj' := List.mem_range.mp hj
        unfold asg
        rw [List.getD_eq_getElem?_getD, List.getElem?_map, List.getElem?_range hj']
        rfl
      rw [e, ← he]
      exact total_place h0 hL hp

/-! ### the loops' own sums -/
theorem take_snoc {xs : List Int} {k : Nat} {x : Int} (h : xs[k]? = some x) : xs.take (k + 1) = xs.take k ++ [x] := by
  rw [List.take_add_one, h]
  rfl
theorem cost_take {xs : List Int} {k : Nat} {x : Int} (h : xs[k]? = some x) : cost (xs.take (k + 1)) = cost (xs.take k) + (xs.take (k + 1)).sum := by
  rw [take_snoc h, cost_snoc, sum_app]
  simp
theorem G_take {xs : List Int} {m k : Nat} {x : Int} (h : xs[k]? = some x) : G m 0 (xs.take (k + 1)) = G m 0 (xs.take k) + x * ((k / m + 1 : Nat) : Int) := by
  have hk : k < xs.length := (List.getElem?_eq_some_iff.mp h).1
  have e : (xs.take k).length = k := by rw [List.length_take]; omega
  rw [take_snoc h, G_app, e]
  simp [G]
/-- the i-th summand of the law's sum over one machine's rising times -/
def term (xs : List Int) (k : Nat) : Int := xs.getD k 0 * ((xs.length : Int) - (k : Int))
theorem terms_sum : ∀ xs : List Int, ((List.range xs.length).map (term xs)).sum = cost xs
  | [] => rfl
  | x :: xs => by
    have ih := terms_sum xs
    rw [List.length_cons, List.range_succ_eq_map, List.map_cons, List.map_map, List.sum_cons, cost, ← ih]
    have e1 : term (x :: xs) 0 = x * ((xs.length + 1 : Nat) : Int) := by
      unfold term
      simp
    have e2 : ((List.range xs.length).map (term (x :: xs) ∘ Nat.succ)) = (List.range xs.length).map (term xs) := by
      refine List.map_congr_left fun k _ => ?_
      show term (x :: xs) (k + 1) = term xs k
      unfold term
      rw [List.getD_cons_succ, List.length_cons]
      have : (((xs.length + 1 : Nat) : Int) - ((k + 1 : Nat) : Int)) = (xs.length : Int) - (k : Int) := by omega
      rw [this]
    rw [e1, e2]
theorem prefix_sums (xs : List Int) : ∀ n, n ≤ xs.length → ((List.range n).map fun k => (xs.take (k + 1)).sum).sum = cost (xs.take n)
  | 0, _ => by simp [cost]
  | n + 1, h => by
    have ih := prefix_sums xs n (by omega)
    have hx : xs[n]? = some xs[n] := List.getElem?_eq_getElem (by omega)
    rw [List.range_succ, List.map_append, sum_app, ih, cost_take hx]
    simp
theorem prefix_all (xs : List Int) : ((List.range xs.length).map fun k => (xs.take (k + 1)).sum).sum = cost xs := by
  rw [prefix_sums xs xs.length (Nat.le_refl _), List.take_length]
/-- a list of lists grown at a place -/
theorem set_flat : ∀ {L : List (List Nat)} {k : Nat} {l : List Nat} {j : Nat}, L[k]? = some l → (L.set k (l ++ [j])).flatten.Perm (L.flatten ++ [j])
  | [], _, _, _, h => by simp at h
  | l0 :: L, 0, l, j, h => by
    have e : l0 = l := by simpa using h
    subst e
    show ((l0 ++ [j]) ++ L.flatten).Perm ((l0 ++ L.flatten) ++ [j])
    rw [List.append_assoc, List.append_assoc]
    exact List.Perm.append_left _ List.perm_append_comm
  | l0 :: L, k + 1, l, j, h => by
    have ih := set_flat (L := L) (k := k) (l := l) (j := j) (by simpa using h)
    show (l0 ++ (L.set k (l ++ [j])).flatten).Perm ((l0 ++ L.flatten) ++ [j])
    rw [List.append_assoc]
    exact ih.append_left _
theorem replicate_flat : ∀ m : Nat, (List.replicate m ([] : List Nat)).flatten = []
  | 0 => rfl
  | m + 1 => by rw [List.replicate_succ, List.flatten_cons, replicate_flat m]; rfl
/-- an item taken out of a list and put behind another one -/
theorem pop_perm {xs ys : List Nat} {k y : Nat} (h : ys[k]? = some y) : ((xs ++ [y]) ++ ys.eraseIdx k).Perm (xs ++ ys) := by
  obtain ⟨hk, e⟩ := List.getElem?_eq_some_iff.mp h
  have e2 : ys = ys.take k ++ y :: ys.drop (k + 1) := by
    rw [← e, List.getElem_cons_drop, List.take_append_drop]
  rw [List.append_assoc]
  refine List.Perm.append_left _ ?_
  rw [List.eraseIdx_eq_take_drop_succ]
  have p : (y :: (ys.take k ++ ys.drop (k + 1))).Perm (ys.take k ++ y :: ys.drop (k + 1)) := List.perm_middle.symm
  rw [← e2] at p
  exact p

/-- the i-th summand of short_sum -/
def gterm (m : Nat) (xs : List Int) (k : Nat) : Int := xs.getD k 0 * ((k / m + 1 : Nat) : Int)
theorem gterms_sum (m : Nat) (xs : List Int) : ∀ n, n ≤ xs.length → ((List.range n).map (gterm m xs)).sum = G m 0 (xs.take n)
  | 0, _ => by simp [G]
  | n + 1, h => by
    have ih := gterms_sum m xs n (by omega)
    have hx : xs[n]? = some xs[n] := List.getElem?_eq_getElem (by omega)
    rw [List.range_succ, List.map_append, sum_app, ih, G_take hx]
    simp [gterm, List.getD_eq_getElem?_getD, hx]
theorem gterms_all (m : Nat) (xs : List Int) : ((List.range xs.length).map (gterm m xs)).sum = G m 0 xs := by
  rw [gterms_sum m xs _ (Nat.le_refl _), List.take_length]
theorem on_lt {f : Nat → Nat} {n i j : Nat} (h : j ∈ on f (List.range n) i) : j < n := List.mem_range.mp (List.mem_filter.mp h).1
end K19

/-! K19A: the text by its places; the checks (checks.py, jobs.py). -/
namespace K19
open PySem PySem.Spec PyProof.Rows L2
/-! ### the text -/
def topS (i : Nat) : Stmt := PySem.Challenge.pw_shoporders_k19_whole_sums_on_machines.main.body.getD i (.Pass ⟨0, 0, 0, 0⟩)
abbrev FnP (K : PySem.W.Frag) (x : Str) (st : Stmt) (f : Addr) (fd : FuncData) : Prop := FunD K x x (defArgs st) (defBody st) (defScope st) [] [] f fd
abbrev sInteger : Stmt := topS 1
abbrev sIn : Stmt := topS 2
abbrev sList : Stmt := topS 3
theorem scInteger : FnScope ["value"] ["value"] (defScope sInteger) := ⟨rfl, rfl, rfl, by decide +kernel, rfl, by decide +kernel, by decide +kernel⟩
theorem scIn : FnScope ["value", "least", "most"] ["value", "least", "most"] (defScope sIn) := ⟨rfl, rfl, rfl, by decide +kernel, rfl, by decide +kernel, by decide +kernel⟩
theorem scList : FnScope ["value", "least", "most"] ["value", "least", "most"] (defScope sList) := ⟨rfl, rfl, rfl, by decide +kernel, rfl, by decide +kernel, by decide +kernel⟩
theorem kit_int_int {K : PySem.W.Frag} : PySem.W.kitOne K (.type "int") (.type "int") = some true := kit_ty (by decide +kernel)
theorem kit_int_bool {K : PySem.W.Frag} : PySem.W.kitOne K (.type "int") (.type "bool") = some false := kit_ty (by decide +kernel)
theorem kit_tup_tup {K : PySem.W.Frag} : PySem.W.kitOne K (.type "tuple") (.type "tuple") = some true := kit_ty (by decide +kernel)
theorem boot_isi : bootBuiltins "isinstance" = some (.builtin "isinstance") := by decide +kernel
theorem bl_t {p : Prop} [Decidable p] (h : p) : V.bl (decide p) = V.bl true := by rw [decide_eq_true h]
theorem bl_f {p : Prop} [Decidable p] (h : ¬ p) : V.bl (decide p) = V.bl false := by rw [decide_eq_false h]
theorem q_t {p : Prop} [Decidable p] {Q : VK} {H : Hp} (h : p) (q : Q (.bl true) H) : Q (.bl (decide p)) H := by
  rw [decide_eq_true h]
  exact q
/-! ### promises -/
def spInteger : Sp := fun vs H Q _ => ∃ i : Int, vs = [.int i] ∧ Q (.bl true) H
def spIn : Sp := fun vs H Q _ => ∃ i a b : Int, vs = [.int i, .int a, .int b] ∧ a ≤ i ∧ i ≤ b ∧ Q (.bl true) H
def spList : Sp := fun vs H Q _ => ∃ (p : Addr) (xs : List V) (a b : Int), vs = [.ref p, .int a, .int b] ∧ H p = some (.tup xs) ∧ a ≤ (xs.length : Int) ∧ (xs.length : Int) ≤ b ∧ Q (.bl true) H
section
variable {P : Program} {w : World} {K : PySem.W.Frag} {mg : Str → Option Value} {base : Heap} {f f1 : Addr} {fd fd1 : FuncData}
theorem ok_integer (F : FnP K "is_integer" sInteger f fd) (mi : mg "isinstance" = none) (mI : mg "int" = none) (mB : mg "bool" = none) : FnOk P w K mg base CX0 1 f fd ["value"] spInteger := by
  refine F.ok scInteger (fun vs H Q E h => ?_) (fun cdv A outer s H vs Q E hr h => ?_)
  · obtain ⟨i, rfl, _⟩ := h
    rfl
  · obtain ⟨i, rfl, q⟩ := h
    refine ⟨_, PSs.nox (pss_one (ps_ret (pe_and (pe_callB call_isi (by rfl) mi boot_isi (pa_cons (pv 0) (pa_cons (pe_bltn (v := .ty "int") (by rfl) mI boot_int rfl) pa_nil)))
      (pe_one (pe_not (pe_callB call_isi (by rfl) mi boot_isi (pa_cons (pv 0) (pa_cons (pe_bltn (v := .ty "bool") (by rfl) mB (by decide +kernel) rfl) pa_nil)))))))), ?_⟩
    refine ⟨_, rfl, _, _, _, _, _, rfl, .ty "int", .base (.int i), kit_int_int, true, rfl, iteT ?_⟩
    exact ⟨_, rfl, _, _, _, _, _, rfl, .ty "bool", .base (.int i), kit_int_bool, false, rfl, q⟩
theorem ok_in (F : FnP K "is_in" sIn f fd) (F1 : FnP K "is_integer" sInteger f1 fd1) (g1 : mg "is_integer" = some (.ref f1)) (mi : mg "isinstance" = none) (mI : mg "int" = none) (mB : mg "bool" = none) :
    FnOk P w K mg base CX0 2 f fd ["value", "least", "most"] spIn := by
  have G1 : FnOk P w K mg base CX0 1 f1 fd1 ["value"] spInteger := ok_integer F1 mi mI mB
  have b1 : Binds K fd1 ["value"] [] := F1.bindsN fun _ _ _ _ _ _ us hl => match us, hl with | [_], _ => rfl
  refine F.ok scIn (fun vs H Q E h => ?_) (fun cdv A outer s H vs Q E hr h => ?_)
  · obtain ⟨i, a, b, rfl, _⟩ := h
    rfl
  · obtain ⟨i, a, b, rfl, h1, h2, q⟩ := h
    refine ⟨_, PSs.nox (pss_one (ps_ret (pe_and (pe_call G1 hr (by rfl) g1 F1.kp b1 .nil pass0 (pa_cons (pv 0) pa_nil)) (pe_one (pe_chain op_le op_le (pv 1) (pv 0) (pv 2)))))), ?_⟩
    refine ⟨_, rfl, i, rfl, true, rfl, iteT ?_⟩
    refine ⟨_, rfl, _, rfl, a, i, rfl, rfl, true, ?_, ?_⟩
    · exact bl_t h1
    · exact iteT ⟨_, rfl, i, b, rfl, rfl, q_t (Q := Q) h2 q⟩
theorem ok_list (F : FnP K "is_list" sList f fd) (mi : mg "isinstance" = none) (mT : mg "tuple" = none) (mL : mg "len" = none) :
    FnOk P w K mg base CX0 1 f fd ["value", "least", "most"] spList := by
  refine F.ok scList (fun vs H Q E h => ?_) (fun cdv A outer s H vs Q E hr h => ?_)
  · obtain ⟨p, xs, a, b, rfl, _⟩ := h
    rfl
  · obtain ⟨p, xs, a, b, rfl, hp, h1, h2, q⟩ := h
    refine ⟨_, PSs.nox (pss_one (ps_ret (pe_and (pe_callB call_isi (by rfl) mi boot_isi (pa_cons (pv 0) (pa_cons (pe_bltn (v := .ty "tuple") (by rfl) mT boot_tuple rfl) pa_nil)))
      (pe_one (pe_chain op_le op_le (pv 1) (pe_callB call_len_seq (by rfl) mL PySem.boot_len (pa_cons (pv 0) pa_nil)) (pv 2)))))), ?_⟩
    refine ⟨_, rfl, _, _, _, _, _, rfl, .ty "tuple", .base (.tup hp), kit_tup_tup, true, rfl, iteT ?_⟩
    refine ⟨_, rfl, _, rfl, p, xs, rfl, .inr (SqT.of hp), a, xs.length, rfl, rfl, true, ?_, ?_⟩
    · exact bl_t h1
    · exact iteT ⟨_, rfl, xs.length, b, rfl, rfl, q_t (Q := Q) h2 q⟩
end
end K19

/-! K19B: enumerate(tuple); xs[a::k] of a list. -/
namespace K19
open PySem PySem.Spec PyProof.Rows L2
/-! ### enumerate(t) of a tuple begins -/
set_option maxHeartbeats 1000000 in
theorem meets_enumerate_new1 {v : Value} {o : Obj} {H : Heap → Prop} (B : Begins v o H) :
    Meets (Builtin.«enumerate.__new__» ⟨[.type "enumerate", v], []⟩) (fun _ R s => H s.heap ∧
      R (.ok (.ret (.ref (s.heap.push o).objs.size))) { s with heap := (s.heap.push o).push { cls := .type "enumerate", data := .fields #[.none, .bool false, .ref s.heap.objs.size, rawInt 0, .none, .none] } }) :=
  .of_wp fun prog w A R s h => by
    obtain ⟨hp, g, d, tk, os⟩ := s; obtain ⟨h1, h⟩ := h
    have hsub := sub_enumerate
    have q1 : ∀ {A' : Around} {E : Value → Shared → Prop} {Q : Value → Shared → Prop}, Q (.ref hp.objs.size) ⟨hp.push o, g, d, tk, os⟩ → wpAny (model prog w) A' (pyIter v) Q E ⟨hp, g, d, tk, os⟩ :=
      fun q => B.iter prog w _ _ ⟨hp, g, d, tk, os⟩ _ h1 q
    wp_walk using q1
    refine wpAny_stack_any fun st => wpAny_pure ?_
    split
    · rename_i c _ _ _ _ _
      cases (c == Value.type "enumerate")
      · wp_walk using q1
        exact ⟨_, rfl, h⟩
      · wp_walk using q1
        exact ⟨_, rfl, h⟩
    · wp_walk using q1
      exact ⟨_, rfl, h⟩
section
variable {prog : Program} {w : World} {A : Around} {E : Value → Shared → Prop} {s : Shared}
theorem enum_begins1 {v : Value} {o : Obj} {H : Heap → Prop} {Q : Value → Shared → Prop} (B : Begins v o H) (h1 : H s.heap)
    (h : ∀ h', IsEnum h' (s.heap.objs.size + 1) s.heap.objs.size 0 .none → h'.get? s.heap.objs.size = some o → h'.objs.size = s.heap.objs.size + 2 →
      (∀ b o, s.heap.get? b = some o → h'.get? b = some o) → Q (.ref (s.heap.objs.size + 1)) { s with heap := h' }) :
    wpAny (model prog w) A (call (.type "enumerate") [v]) Q E s := by
  refine callType_new F.called_enumerate (by decide) (F.typeCall_enumerate_1 _) (F.newCall_enumerate_1 _) (fun obj => F.args_object_init_2 obj _) F.entry_enumerate_new
    (meets_enumerate_new1 B) ⟨h1, ?_⟩
  have hz : (s.heap.push o).objs.size = s.heap.objs.size + 1 := Heap.size_push ..
  show _ ∧ _
  rw [hz]
  have he : IsEnum ((s.heap.push o).push { cls := .type "enumerate", data := .fields #[.none, .bool false, .ref s.heap.objs.size, rawInt 0, .none, .none] }) (s.heap.objs.size + 1) s.heap.objs.size 0 .none := by
    have := Heap.get?_push_size (s.heap.push o) (o := { cls := .type "enumerate", data := .fields #[.none, .bool false, .ref s.heap.objs.size, rawInt 0, .none, .none] }) rfl
    rw [hz] at this; exact this
  refine ⟨⟨_, he, rfl⟩, h _ he (Heap.get?_push_of_some _ (Heap.get?_push_size _ B.free)) (by rw [Heap.size_push, hz]) fun b o x => Heap.get?_push_of_some _ (Heap.get?_push_of_some _ x)⟩
end
/-! ### enumerate(tuple), walked -/
def IteT (K : PySem.W.Frag) (a : Addr) : It :=
  ⟨fun i H => ∃ (xs : List V) (x : V), SqT K H a xs ∧ xs[i]? = some x, fun i H v H' => ∃ T x, v = .ref T ∧ H T = none ∧ H' = upd H T (.tup [.int (i : Nat), x]) ∧ ∀ xs, SqT K H a xs → xs[i]? = some x, fun i H => ∃ xs : List V, SqT K H a xs ∧ xs.length = i⟩
theorem turn_enumT {P : Program} {w : World} {K : PySem.W.Frag} {elts : List Expr} {kk : Nat} {tpos : Pos} (a e it : Addr) (hea : e ≠ a) (hia : a ≠ it) :
    Turn P w K (.Tuple elts kk tpos) (IteT K a) [e, it] e (fun i h => (∃ old, IsEnum h e it ((i : Nat) : Int) old) ∧ h.IsTupleIter it a i ∧ e ≠ it) where
  mem := by simp
  obj := fun i h st b hb => by
    obtain ⟨⟨old, he⟩, ⟨o, ho, hc, hd⟩, _⟩ := st
    have e' : b = e ∨ b = it := by simpa using hb
    rcases e' with z | z
    · rw [z]; exact ⟨_, he, fun v q => nomatch q⟩
    · rw [z]; exact ⟨o, ho, fun v q => by rw [hd] at q; cases q⟩
  keep := fun i h h' st k => let ⟨⟨old, he⟩, hi, hne⟩ := st; ⟨⟨old, k e (by simp) _ he⟩, hi.at fun o q => k it (by simp) o q, hne⟩
  item := by
    intro X hP hw hK hc i pins s σ H E I hf st hg
    subst hP hw hK
    obtain ⟨⟨old, he⟩, hit, hne⟩ := st
    obtain ⟨xs, x, hq, hx⟩ := hg
    obtain ⟨its, rv, p, hz⟩ := I.tuple hq
    obtain ⟨u, hu, ru⟩ := rv.get hx
    have hel : e < s.heap.objs.size := Heap.lt_size he
    have hil : it < s.heap.objs.size := by obtain ⟨_, q, _⟩ := hit; exact Heap.lt_size q
    have D := Draws.tuple (prog := X.prog) (w := X.w) (A := X.A.in1) (I.ok.hd hc) it a hia its.toArray
    have hlt : i < its.toArray.size := by
      obtain ⟨z, _⟩ := List.getElem?_eq_some_iff.mp hu
      rw [List.size_toArray]
      exact z
    refine wpAny_pyNext_enum_itemD D he ⟨hit, p⟩ hlt hne (fun z => by
      have z' : e = it ∨ e = a := by simpa using z
      exact z'.elim hne hea) fun y h' tk hy ho hs' hT hsz hk => ?_
    have ey : y = u := by
      have h1 : its.toArray[i]? = some u := by simpa using hu
      rw [h1] at hy
      exact (Option.some.inj hy).symm
    subst ey
    refine ⟨_, rfl, wpAny_letOwnedTupleGo_enum (s := { s with heap := h', toks := tk + 1 }) ho fun h'' he' sb => ?_⟩
    have hT2 : h''.get? s.heap.objs.size = some { cls := .type "tuple", data := .seq #[.int i tk, y] } := (sb.2 _ (Nat.ne_of_gt hel)).trans hT
    have new : ObjOk X.prog X.w (upd H s.heap.objs.size (.tup [.int (i : Nat), x])) h'' s.heap.objs.size (.tup [.int (i : Nat), x]) :=
      ⟨by show 2 ≤ sizeLine; decide, [.int i tk, y], .cons ⟨_, rfl⟩ (.cons ru .nil), ⟨_, hT2, rfl, _, rfl⟩⟩
    have I1 : Inv X pins σ (upd H s.heap.objs.size (.tup [.int (i : Nat), x])) { s with heap := h'', toks := tk + 1 } :=
      I.turnedNew (ch := [e, it]) (fun b ob hb q => (sb.2 b (fun z => hb (by simp [z]))).trans (hk b ob (fun z => hb (by simp [z])) (fun z => hb (by simp [z])) q)) hf (Nat.le_refl _) new
    refine ⟨.ref s.heap.objs.size, _, I1, rfl, ⟨_, x, rfl, I.hok.fresh (Nat.le_refl _), rfl, fun ys hy => by rw [I.tuple_inj hy hq]; exact hx⟩, ⟨⟨y, ?_⟩, hs'.1.at fun o q => (sb.2 it (Ne.symm hne)).trans q, hne⟩, fun b hb => ?_⟩
    · have e1 : ((i + 1 : Nat) : Int) = (i : Int) + 1 := by omega
      rw [e1]; exact he'
    · have hb' : b < s.heap.objs.size := by
        have e' : b = e ∨ b = it := by simpa using hb
        rcases e' with z | z
        · rw [z]; exact hel
        · rw [z]; exact hil
      rw [upd_ne (Nat.ne_of_lt hb')]
      exact (hf b hb).1
  done := by
    intro X hP hw hK hc i pins s σ H E I hf st hg
    subst hP hw hK
    obtain ⟨⟨old, he⟩, hit, hne⟩ := st
    obtain ⟨xs, hq, hx⟩ := hg
    obtain ⟨its, rv, p, hz⟩ := I.tuple hq
    obtain ⟨f0, f1, f2, f3, f4, f5⟩ := hf it (by simp)
    have hl := rv.length
    have D := Draws.tuple (prog := X.prog) (w := X.w) (A := X.A.in1) (I.ok.hd hc) it a hia its.toArray
    have en : its.toArray.size = i := by rw [List.size_toArray]; omega
    rw [← en] at hit
    exact wpAny_pyNext_enum_endD D he ⟨hit, p⟩ fun h' eb => ⟨rfl, I.turned (t' := s.toks) (fun b o hb q => eb b o hb q) f0 f1 f3 f4 f5⟩
  self := fun A i s Q E st h => let ⟨⟨_, he⟩, _⟩ := st; wpAny_pyIter_enum he h
def iEnumT (K : PySem.W.Frag) (ta : TA) : TI := fun σ H R => ta σ H fun vs H1 => ∃ a xs, vs = [.ref a] ∧ SqT K H1 a xs ∧ R (IteT K a) H1
theorem pi_enumT {X : Cx} {e : Expr} {ta : TA} {p pos tpos : Pos} {elts : List Expr} {kk : Nat} (hg : Gl X "enumerate") (hm : X.mg "enumerate" = none) (ha : PA X [e] ta) (hs : starEach [e] X.env = [(false, eval e X.env)] := by rfl) :
    PI X (.Tuple elts kk tpos) (.Call (.Name "enumerate" p) [e] [] pos) (iEnumT X.K ta) := by
  refine ⟨fun pins s σ H R I h => ?_⟩
  refine Call_ (ld_blt I hg hm boot_enumerate (PyProof.Rows.callWith_type1 (thn (ha.run pos pins s σ H _ I h) fun us s1 ⟨vs, H1, I1, r1, q1⟩ => ?_) hs rfl))
  obtain ⟨a, xs, ex, hq, q⟩ := q1
  subst ex
  cases r1 with
  | cons r rr =>
    cases rr
    cases r
    obtain ⟨its, rv, p', hz⟩ := I1.tuple hq
    have hal : a < s1.heap.objs.size := by
      obtain ⟨_, q, _⟩ := id p'
      exact Heap.lt_size q
    refine enum_begins1 (begins_tuple a its.toArray) p' fun h' he hit hsz hk => wpAny_pyIter_enum he ?_
    have I2 : Inv X pins σ H1 { s1 with heap := h' } := I1.kept (t' := s1.toks) hk
    refine ⟨s1.heap.objs.size + 1, [s1.heap.objs.size + 1, s1.heap.objs.size], _, _, H1, rfl, I2, turn_enumT a (s1.heap.objs.size + 1) s1.heap.objs.size (Nat.ne_of_gt (Nat.lt_succ_of_lt hal)) (Nat.ne_of_lt hal), ⟨⟨.none, he⟩, ⟨_, hit, rfl, rfl⟩, Nat.succ_ne_self _⟩, fun b hb => ?_, q⟩
    have e' : b = s1.heap.objs.size + 1 ∨ b = s1.heap.objs.size := by simpa using hb
    have hle : s1.heap.objs.size ≤ b := by
      rcases e' with z | z
      · rw [z]; exact Nat.le_add_right _ _
      · rw [z]; exact Nat.le_refl _
    exact I1.fpOk hle (I1.hok.fresh hle)
theorem walk_enumT {K : PySem.W.Frag} {a : Addr} {xs : List V} : Walk (IteT K a) xs.length (fun H => SqT K H a xs) (YPair (fun i => some (.int (i : Nat))) (fun i => xs[i]?)) := by
  refine ⟨fun i _ hi q => ⟨xs, xs[i], q, by simp [hi]⟩, fun _ q => ⟨xs, q, rfl⟩, fun i H v H' _ q y => ?_⟩
  obtain ⟨T, x, h1, h2, h3, h4⟩ := y
  exact ⟨T, .int (i : Nat), x, h1, h2, h3, rfl, h4 xs q⟩

/-! ### xs[a::k] of a list -/
/-- the places that the slice takes of n items -/
def stepIx (n : Nat) (i k : Int) : List Nat := sliceRange (sliceBounds (some i) none (some k) n).1 (sliceBounds (some i) none (some k) n).2.1 (sliceBounds (some i) none (some k) n).2.2
def stepV (xs : List V) (i k : Int) : List V := (stepIx xs.length i k).filterMap (xs[·]?)
theorem vals_pick {xs : List V} {us : List Value} (r : Vals xs us) : ∀ js : List Nat, Vals (js.filterMap (xs[·]?)) (js.filterMap (us[·]?))
  | [] => .nil
  | j :: js => by
    have ih := vals_pick r js
    cases e : xs[j]? with
    | none => rw [List.filterMap_cons_none e, List.filterMap_cons_none (r.none_of e)]; exact ih
    | some x =>
      obtain ⟨u, hu, ru⟩ := r.get e
      rw [List.filterMap_cons_some e, List.filterMap_cons_some hu]
      exact .cons ru ih
theorem pick_eq (its : List Value) (i k : Int) : slicePick its.toArray (some i) none (some k) = ((stepIx its.length i k).filterMap (its[·]?)).toArray := by
  unfold slicePick stepIx
  simp
def tStepL (K : PySem.W.Frag) (te : TE) (tl ts : TO) : TE := fun σ H Q => te σ H fun x H1 => tl σ H1 fun lo H2 => ts σ H2 fun st H3 => ∃ a xs i k, x = .ref a ∧ lo = some i ∧ st = some k ∧ k ≠ 0 ∧ SqL K H3 a xs ∧ (stepV xs i k).length ≤ sizeLine ∧
  ∀ p, H3 p = none → Q (.ref p) (upd H3 p (.lst (stepV xs i k)))
theorem pe_stepL {X : Cx} (K : PySem.W.Frag) {e lo st : Expr} {te : TE} {tl ts : TO} {p3 pos : Pos} (he : PE X e te) (hl : PO X (some lo) tl) (hk : PO X (some st) ts) (hK : X.K = K := by rfl) : PE X (.Subscript e (.Slice (some lo) none (some st) p3) pos) (tStepL K te tl ts) := by
  subst hK
  refine ⟨fun pins s σ H Q I h => ?_⟩
  refine Subscript_ (thn (he.run pins s σ H _ I h) fun v s1 ⟨x, H1, I1, r1, q1⟩ => ?_)
  refine wpAny_Slice (thn (hl.run pins s1 σ H1 _ I1 q1) fun vl s2 ⟨l, H2, I2, pl, q2⟩ => ?_)
  rw [evalPart_none]
  refine wpAny_pure (thn (hk.run pins s2 σ H2 _ I2 q2) fun vk s3 ⟨o, H3, I3, pk, q3⟩ => ?_)
  obtain ⟨a, xs, i, k, e1, e2, e3, k0, hx, hz2, q⟩ := q3
  subst e1 e2 e3
  cases r1
  have I4 : Inv X pins σ H3 { s3 with heap := s3.heap.push { cls := .type "slice", data := .fields #[vl, .none, vk] } } := I3.kept (t' := s3.toks) fun b ob q => Heap.get?_push_of_some _ q
  obtain ⟨its, r, ht, hz⟩ := I4.list hx
  have hlen := r.length
  show wpAny (model X.prog X.w) X.A (subscriptTail e (.Slice (some lo) none (some st) p3) (.ref a) (.ref s3.heap.objs.size)) (EP X pins σ Q) X.xe { s3 with heap := s3.heap.push { cls := .type "slice", data := .fields #[vl, .none, vk] } }
  refine tail_any (ops := [.ref a, .ref s3.heap.objs.size]) ht.isList.typeIs (PySem.slot_list_getitem.lookup) ?_ (by with_unfolding_all rfl)
  refine wpAny_getItem_list_slice ht.isList (Heap.IsSliceOf.new _ vl .none vk) pl .none pk (by simpa using k0) ?_ (by rw [List.size_toArray]; omega)
  rw [pick_eq, ← hlen]
  refine ⟨.ref _, _, I4.laid (t' := s3.toks) (o := .lst (stepV xs i k)) (fun b ob q => Heap.get?_push_of_some _ q) (Nat.le_refl _) ?_, rfl, q _ (I4.hok.fresh (Nat.le_refl _))⟩
  exact ⟨hz2, _, 0, vals_pick r _, Heap.get?_push_size _ rfl⟩
theorem stepIx_on : ∀ n < 6, ∀ k < 4, ∀ i < k, stepIx n ((i : Nat) : Int) ((k : Nat) : Int) = on (fun j => j % k) (List.range n) i := by decide +kernel

/-! ### rules with the written part named (for a comprehension's block, where X.K is not to be seen) -/
section
variable {X : Cx} (K : PySem.W.Frag)
theorem ixL (hK : X.K = K := by rfl) : IxR X (rIxL K) := by subst hK; exact ix_list
theorem ixT (hK : X.K = K := by rfl) : IxR X (rIxT K) := by subst hK; exact ix_tup
def rTupOf : List V → Hp → VK → Prop := fun xs H Q => ∃ p ys, xs = [.ref p] ∧ SqL K H p ys ∧ ∀ l, H l = none → Q (.ref l) (upd H l (.tup ys))
theorem cTup (hK : X.K = K := by rfl) : CallR X (.type "tuple") (rTupOf K) := by
  subst hK
  intro pins s σ H xs us Q I r h
  obtain ⟨p, ys, e, h1, h2⟩ := h
  exact call_tuple_of pins s σ H xs us Q I r ⟨p, ys, e, .inl ⟨h1, h2⟩⟩
def rLenOf : List V → Hp → VK → Prop := fun xs H Q => ∃ p ys, xs = [.ref p] ∧ (SqL K H p ys ∨ SqT K H p ys) ∧ Q (.int ys.length) H
theorem cLen (hK : X.K = K := by rfl) : CallR X (.builtin "len") (rLenOf K) := by subst hK; exact call_len_seq
theorem cSum (hc : X.calm = true) (hK : X.K = K := by rfl) : CallR X (.builtin "sum") (rSum K) := by subst hK; exact cr_sum hc
theorem cIsi (hK : X.K = K := by rfl) : CallR X (.builtin "isinstance") (rIsi K) := by subst hK; exact call_isi
theorem oCatA (hK : X.K = K := by rfl) : OpR X (binaryOp .Add) (rCatA K) := by subst hK; exact op_catA
theorem sTupA (hK : X.K = K := by rfl) : SlR X (rSlA K) := by subst hK; exact sl_tupA
end
end K19

/-! K19L: sorted(range(n), key=lambda job: (times[job], job)), times a captured name. -/
namespace K19
open PySem PySem.Spec PyProof.Rows L2 PySem.W
/-! ### the lambda -/
abbrev lamBody (q1 q2 q3 q4 q5 : Pos) (k : Nat) : Expr := .Tuple [.Subscript (.Name "times" q1) (.Name "job" q2) q3, .Name "job" q4] k q5
abbrev lamArgs (q : Pos) : Arguments := { posonlyargs := [], args := [{ arg := "job", annotation := none, pos := q }], vararg := none, kwonlyargs := [], kw_defaults := [], kwarg := none, defaults := [] }
abbrev lamScope : Scope := { kind := .function, names := [("job", .local), ("times", .free)], isGenerator := false, isCoroutine := false, more := [] }
section
variable {prog : Program} {w : World} {A : Around} {s : Shared}
set_option maxHeartbeats 2000000 in
/-- one call of it: a new pair, all else is kept -/
theorem lam_key {f tt c c' : Addr} {qual : Str} {q1 q2 q3 q4 q5 qa : Pos} {k : Nat} {cl : List (Str × Addr)} {pm ctv : Value} {its : List Value} {ts : List Int} {j : Nat} {t : Tok}
    (ho : s.heap.get? f = some (kla_obj "<lambda>" qual (lamArgs qa) (lamBody q1 q2 q3 q4 q5 k) lamScope cl pm c' ctv)) (hcd : s.heap.CodeRec (.ref c') qual) (hroom : A.depth < recursionLimit) (lim : s.heap.NoLimit)
    (hcl : cl.lookup ("times" : Str) = some c) (hcell : s.heap.IsCell c (some (.ref tt))) (ht : IsTup s.heap tt its.toArray) (rv : Vals (ts.map V.int) its) (hj : j < ts.length) (hz : ts.length ≤ 1000) :
    wpAny (model prog w) A (call (.ref f) [.int (j : Nat) t]) (KeyPure (.tuple [.int (tm ts j), .int (j : Nat)]) s) (fun _ _ => False) s := by
  have hx : (ts.map V.int)[j]? = some (.int (tm ts j)) := by
    rw [List.getElem?_map, List.getElem?_eq_getElem hj]
    simp [tm, List.getD_eq_getElem?_getD, List.getElem?_eq_getElem hj]
  obtain ⟨u, hu, ru⟩ := rv.get hx
  obtain ⟨tx, rfl⟩ := ru
  have hlen : its.length = ts.length := by
    have := rv.length
    rw [List.length_map] at this
    exact this.symm
  refine wpAny_call ?_
  refine kla_callFunE hroom ho rfl rfl rfl rfl hcd ?_
  have hbind : bindArgs (kla_fn "<lambda>" qual (lamArgs qa) (lamBody q1 q2 q3 q4 q5 k) lamScope cl pm (.ref c') ctv) ⟨[.int (j : Nat) t], []⟩ = pure [(("job" : Str), .int (j : Nat) t)] := rfl
  rw [hbind]
  refine wpAny_pure (wpAny_newFunctionEnv (scope := lamScope) (by decide) (by intro x hx; have e : x = (("job" : Str), Value.int (j : Nat) t) := List.mem_singleton.mp hx; rw [e]; rfl) (fun h₁ hns hsb => ⟨lim.fresh _ hsb, ?_⟩) rfl)
  show codeAny _ _ (.expr (lamBody q1 q2 q3 q4 q5 k) (envX qual lamScope s.heap.objs.size f (.ref c') cl)) _ _
  have kp : ∀ b o, s.heap.get? b = some o → h₁.get? b = some o := fun b o e => hsb.extBut b o (Nat.ne_of_lt (Heap.lt_size e)) (Heap.get?_push_of_some _ e)
  refine kla_codeExpr ?_
  have hcell' : h₁.IsCell c (some (.ref tt)) := hcell.keeps kp
  have ht' : IsTup h₁ tt its.toArray := by
    obtain ⟨o, e, r⟩ := ht
    exact ⟨o, kp _ _ e, r⟩
  have hsz : its.toArray.size = its.length := by simp
  refine Tuple_ (args_cons (Subscript_ (wpAny_Name (wpAny_loadName_free (c := c) rfl rfl hcl hcell' (wpAny_Name (wpAny_loadName_local rfl rfl hns (v := .int (j : Nat) t) rfl ?_))))) rfl)
  refine subscriptTail_builtinR (x := .int (tm ts j) tx) ht'.typeIs slot_tuple_getitem.lookup
    (getItem_tuple (k := (j : Nat)) (j := j) ht' (by omega) (by omega) (by rw [hsz]; exact seqIndex_of (by omega) (by omega)) (by simpa using hu) ⟨rfl, ?_⟩) (by rfl)
  refine args_cons (wpAny_Name (wpAny_loadName_local rfl rfl hns (v := .int (j : Nat) t) rfl (args_nil ?_))) rfl
  refine wpAny_newTuple ?_ (by show 2 ≤ sizeLine; decide)
  refine ⟨_, _, rfl, fun b o e => Heap.get?_push_of_some _ (kp b o e), ?_⟩
  exact Reads.tuple (Heap.get?_push_size _ rfl) rfl rfl (ReadsAll.cons (.int _ _) (ReadsAll.cons (.int _ _) .nil))
end
/-! ### the whole expression -/
def keyD (ts : List Int) (j : Nat) : PyData := .tuple [.int (tm ts j), .int (j : Nat)]
def ordOf (ts : List Int) : List Nat := (List.range ts.length).mergeSort (dataLe false (keyD ts))
theorem ordOf_perm (ts : List Int) : (ordOf ts).Perm (List.range ts.length) := List.mergeSort_perm _ _
theorem ordOf_rising (ts : List Int) : Rising ((ordOf ts).map (tm ts)) := by
  unfold ordOf
  have e : dataLe false (keyD ts) = fun p q => decide (tm ts p < tm ts q ∨ (tm ts p = tm ts q ∧ ((p : Nat) : Int) ≤ ((q : Nat) : Int))) := dataLe_ii (tm ts) fun j => ((j : Nat) : Int)
  rw [e]
  refine List.pairwise_map.mpr ?_
  refine (List.pairwise_mergeSort (fun a b c h1 h2 => ?_) (fun a b => ?_) _).imp fun h => ?_
  · simp only [decide_eq_true_eq] at *
    omega
  · simp only [Bool.or_eq_true, decide_eq_true_eq]
    omega
  · simp only [decide_eq_true_eq] at h
    omega
def tSortLam (T : List (Addr × Str)) (i : Nat) (ta : TE) : TE := fun σ H Q => ∃ (tt : Addr) (ts : List Int), σ[i]? = some (some (.ref tt)) ∧ ts.length ≤ 1000 ∧ ta σ H fun x H1 => x = .int ts.length ∧ H1 tt = some (.tup (ts.map V.int)) ∧ LamX.Tabs T H1 ∧
  ∀ (H2 : Hp) (p : Addr), LamX.ExtN H1 H2 → H2 p = none → Q (.ref p) (upd H2 p (.lst ((ordOf ts).map fun j => V.int (j : Nat))))
def IsJob (v : Value) (j : Nat) : Prop := ∃ t, v = Value.int (j : Nat) t
theorem each_range {acc : Array Value} {n : Nat} (h : ItemsOf (fun i v => ∃ t, v = .int (0 + i * 1) t) acc n) : EachIs IsJob acc.toList (List.range n) := by
  refine EachIs.of_zip (by rw [Array.length_toList, List.length_range]; exact h.1) fun p hp => ?_
  obtain ⟨i, hi⟩ := List.mem_iff_getElem?.mp hp
  rw [List.getElem?_zip_eq_some] at hi
  obtain ⟨h1, h2⟩ := hi
  have hn : i < n := by
    have := (List.getElem?_eq_some_iff.mp h2).1
    rw [List.length_range] at this
    exact this
  rw [List.getElem?_range hn] at h2
  obtain ⟨t, e⟩ := h.2 i p.1 (by rw [← h1, Array.getElem?_toList])
  refine ⟨t, ?_⟩
  rw [e, ← Option.some.inj h2]
  simp
theorem vals_jobs : ∀ {us : List Value} {js : List Nat}, EachIs IsJob us js → Vals (js.map fun j => V.int (j : Nat)) us
  | _, _, .nil => .nil
  | _, _, .cons ⟨t, e⟩ h => .cons ⟨t, e⟩ (vals_jobs h)
set_option maxHeartbeats 2000000 in
theorem pe_sortLam {X : Cx} {a : Expr} {ta : TE} {T : List (Addr × Str)} {i : Nat} {c P : Addr} {q1 q2 q3 q4 q5 qa lpos kpos p p1 p2 pos : Pos} {k : Nat} (hgS : Gl X "sorted") (hmS : X.mg "sorted" = none) (hgR : Gl X "range") (hmR : X.mg "range" = none) (hc : X.calm = true) (hr : Room 1 X.A)
    (ha : PE X a ta) (hN : X.N[i]? = some ("times" : Str)) (hk : X.env.scope.names.lookup ("times" : Str) = some .cell) (TB : LamX.TabB X.base X.mg c P) (hcode : X.env.code = .ref c) (hm : (P, X.env.qual ++ "<lambda>") ∈ T) (hu : ∀ p ∈ T, p.1 = P → p.2 = X.env.qual ++ "<lambda>")
    (na : starEach [a] X.env = (false, eval a X.env) :: starEach [] X.env := by rfl) :
    PE X (.Call (.Name "sorted" p) [.Call (.Name "range" p1) [a] [] p2] [⟨some "key", .Lambda (lamArgs qa) (lamBody q1 q2 q3 q4 q5 k) lamScope lpos, kpos⟩] pos) (tSortLam T i ta) := by
  refine ⟨fun pins s σ H Q I h => ?_⟩
  obtain ⟨tt, ts, hσ, hz, h⟩ := h
  refine wpAny_Call_Name_kw (ld_blt I hgS hmS boot_sorted ?_)
  refine PyProof.Rows.callWith_kw ?_
  refine args_cons (Call_ (ld_blt I hgR hmR boot_range (PyProof.Rows.callWith_type1 (one_arg ha I h (fun v s2 x H2 I2 r q => ?_) na) na))) rfl
  obtain ⟨ex, hT, hTab, q⟩ := q
  subst ex
  obtain ⟨tn, rfl⟩ := r
  refine call_range_1 (args_nil ?_)
  have nR : H2 s2.heap.objs.size = none := I2.hok.fresh (Nat.le_refl _)
  generalize hs3 : ({ s2 with heap := s2.heap.push { cls := .type "range", data := .fields #[.int 0 s2.toks, .int (ts.length : Nat) tn, .int 1 (s2.toks + 1)] }, toks := s2.toks + 1 + 1 } : Shared) = s3
  have I3 : Inv X pins σ (upd H2 s2.heap.objs.size (.rng 0 (ts.length : Nat))) s3 := by
    rw [← hs3]
    exact I2.laid (t' := s2.toks + 1 + 1) (fun b o e => Heap.get?_push_of_some _ e) (Nat.le_refl _) ⟨_, _, _, Heap.get?_push_size _ rfl⟩
  generalize hR : s2.heap.objs.size = rr at I3 nR
  have sm : ∀ b o, H2 b = some o → upd H2 rr (.rng 0 (ts.length : Nat)) b = some o := fun b o e => (upd_ne (ne_of_none e nR)).trans e
  have hfree : ∀ y ∈ lamScope.names, y.2 = .free → ∃ c, X.env.cells.lookup y.1 = some c := fun y hy e => by
    have hy' : y = (("job" : Str), NameKind.local) ∨ y = (("times" : Str), NameKind.free) := by simpa using hy
    rcases hy' with z | z
    · rw [z] at e; cases e
    · rw [z]; exact I.ok.has _ (.inl hk)
  show wpAny _ _ (evalAll ((do let v ← eval (.Lambda (lamArgs qa) (lamBody q1 q2 q3 q4 q5 k) lamScope lpos) X.env; standAt pos; pure v) :: [])) _ _ s3
  refine wpAny_evalAll_cons (wpAny_bind (LamX.lam_make2 I3 TB hcode hm hu (hTab.ext sm) rfl hfree fun f c' pm ctv H4 s4 I4 eN T4 ho hf hfr hco => wpAny_bind (wpAny_standAt (wpAny_pure (wpAny_evalAll_nil ?_)))))
  -- the cell of times
  obtain ⟨m, hn, hl⟩ := I4.loc
  obtain ⟨u, ru, l⟩ := hl i _ _ hN hσ (.inr (.inl hk))
  obtain rfl : u = Value.ref tt := ru
  obtain ⟨c0, hc0, hcell⟩ : ∃ c0, X.env.cells.lookup ("times" : Str) = some c0 ∧ s4.heap.IsCell c0 (some (.ref tt)) := by
    rcases l with ⟨z, _⟩ | ⟨_, z⟩
    · have z' : X.env.scope.names.lookup ("times" : Str) = some .local := z
      rw [hk] at z'
      cases z'
    · exact z
  have hcl : (cloFrom X.env.cells lamScope.names []).lookup ("times" : Str) = some c0 := NdefX.clo_has hfree (by simp) hc0
  have hcd := NdefX.codeO_at I4.hok hco
  have hT4 : H4 tt = some (.tup (ts.map V.int)) := eN _ _ (sm _ _ hT) (fun ps z => by cases z)
  obtain ⟨its, rv, ht, hzt⟩ := I4.tuple (SqT.of hT4)
  have hr4 : H4 rr = some (.rng 0 (ts.length : Nat)) := eN _ _ upd_same (fun ps z => by cases z)
  obtain ⟨t1, t2, t3, hrg⟩ := I4.hok rr _ hr4
  have lim := I4.nolimit
  -- sorted
  show wpAny (model X.prog X.w) X.A (call (.builtin "sorted") [.ref rr] [(Str.ofString "key", .ref f)]) _ _ s4
  refine call_function_entry_kw kind_sorted plain_sorted entry_sorted (ksk_s1 _ _) ?_
  unfold Builtin.«sorted»
  refine wpAny_bind (m := checkCount "sorted" 1 1 _) (wpAny_pure ?_)
  refine wpAny_bind (L2.collect_range (n := ts.length) (show X.A.in1.handled = none from I4.ok.hd hc) (show IsRange s4.heap rr 0 (ts.length : Nat) 1 t1 t2 t3 from hrg) (small_one (by decide) (by decide) (by omega) (by omega)) (by rw [rangeSize_one]; split <;> omega) (by omega) fun h' tk acc hkeep hacc => ?_)
  have he := each_range hacc
  have hlen : acc.toList.length = ts.length := by rw [he.length, List.length_range]
  have hsl : ts.length ≤ sizeLine := Nat.le_of_lt (small1000 hz)
  refine wpAny_bind (wpAny_newList ?_ (by rw [hlen]; exact hsl))
  generalize hs5 : ({ s4 with heap := h'.push { cls := .type "list", data := .seq acc.toList.toArray }, toks := tk } : Shared) = s5
  have hs5h : s5.heap = h'.push { cls := .type "list", data := .seq acc.toList.toArray } := by rw [← hs5]
  have ho5 : s5.heap.get? h'.objs.size = some (seqObj "list" acc.toList.toArray 0) := by rw [hs5h]; exact Heap.get?_push_size _ rfl
  have old : ∀ b o, s4.heap.get? b = some o → b ≠ h'.objs.size ∧ s5.heap.get? b = some o := fun b o e => ⟨Nat.ne_of_lt (Heap.lt_size (hkeep b o e)), by rw [hs5h]; exact Heap.get?_push_of_some _ (hkeep b o e)⟩
  show wpAny _ _ _ _ _ s5
  refine wpAny_bind (wpAny_holding (wpAny_call_entry_kw slot_list_sort ⟨_, ho5, rfl⟩ entry_list_sort ?_ (ksk_l1 _ _)))
  rw [ksk_t1]
  have hdep : ∀ j, (keyD ts j).depth ≤ 2 := fun j => by
    unfold keyD
    simp [PyData.depth, PyData.depthAll]
  refine keyH_tree (b := false) (kz := (List.range ts.length).map (keyD ts)) ho5 (by rw [List.length_map, List.length_range, hlen]) (by rw [hlen]; exact hsl) (AllAlike.of fun b b' => alike_ints [tm ts b, (b : Nat)] [tm ts b', (b' : Nat)]) (Sortable.tuples fun b => ⟨_, _, rfl⟩) (fun d hd => ?_)
    (keyH_turns he fun v x hR hx h tk kp => ?_) fun h'' tk'' out cc kp hD ko => ?_
  · obtain ⟨j, _, rfl⟩ := List.mem_map.mp hd
    have h1 := hdep j
    have h2 := hr.units
    show X.A.units + 1 + 1 + (keyD ts j).depth < cLine
    omega
  · obtain ⟨t, rfl⟩ := hR
    have up : ∀ b o, s4.heap.get? b = some o → h.get? b = some o := fun b o e => kp b o (old b o e).1 (old b o e).2
    have ht' : IsTup h tt its.toArray := by
      obtain ⟨o, e, r⟩ := ht
      exact ⟨o, up _ _ e, r⟩
    have hcd' : h.CodeRec (.ref c') (X.env.qual ++ "<lambda>") := by
      obtain ⟨c2, oc, vs, t', e1, e2, e3, e4⟩ := hcd
      exact ⟨c2, oc, vs, t', e1, up _ _ e2, e3, e4⟩
    exact lam_key (s := { s5 with heap := h, toks := tk }) (A := X.A.in1.in1) (up _ _ ho) hcd' hr.depth (lim.keeps up) hcl (hcell.keeps up) ht' rv (List.mem_range.mp hx) hz
  · refine ⟨_, rfl, wpAny_pure ⟨_, rfl, ?_⟩⟩
    have hout : EachIs IsJob out (ordOf ts) := keyedOut_each (keyD ts) ko he
    have I5 : Inv X pins σ H4 { s4 with heap := h', toks := tk } := I4.kept hkeep
    have nL : H4 h'.objs.size = none := I5.hok.fresh (Nat.le_refl _)
    have hgo : { s5 with heap := h'', toks := tk'' } = ({ s4 with heap := h'', toks := tk'' } : Shared) := by rw [← hs5]
    have keep2 : ∀ b o, h'.get? b = some o → h''.get? b = some o := fun b o e => kp b o (Nat.ne_of_lt (Heap.lt_size e)) (by rw [hs5h]; exact Heap.get?_push_of_some _ e)
    have hlo : ((ordOf ts).map fun j => V.int (j : Nat)).length ≤ sizeLine := by
      rw [List.length_map, (ordOf_perm ts).length_eq, List.length_range]
      exact hsl
    have I6 : Inv X pins σ (upd H4 h'.objs.size (.lst ((ordOf ts).map fun j => V.int (j : Nat)))) { s4 with heap := h'', toks := tk'' } :=
      I5.laid (t' := tk'') keep2 (Nat.le_refl _) ⟨hlo, out, cc, vals_jobs hout, hD⟩
    show EP X pins σ Q (.ref h'.objs.size) { s5 with heap := h'', toks := tk'' }
    rw [hgo]
    refine ⟨.ref h'.objs.size, _, I6, rfl, q H4 h'.objs.size (fun b o e n => ?_) nL⟩
    exact eN _ _ (sm _ _ e) n
end K19

/-! K19R: sorted(tuple of ints, reverse=b). -/
namespace K19
open PySem PySem.Spec PyProof.Rows L2
def rSortedKwT (K : PySem.W.Frag) (b : Bool) (zs0 : List V) : List V → List V → Hp → VK → Prop := fun vs zs H Q => ∃ (a : Addr) (ns : List Int), vs = [V.ref a] ∧ zs = zs0 ∧ SqT K H a (ns.map V.int) ∧
  ∀ (ns' : List Int) (p : Addr), ns'.Perm ns → OrdB b ns' → H p = none → Q (.ref p) (upd H p (.lst (ns'.map V.int)))
set_option maxHeartbeats 1000000 in
theorem cr_sortedRevT {X : Cx} {b : Bool} : CallRK X (.builtin "sorted") [Str.ofString "reverse"] (rSortedKwT X.K b [.bl b]) := by
  intro pins s σ H vs zs us ws Q I r rz h
  obtain ⟨a, ns, rfl, rfl, hs, q⟩ := h
  obtain rfl := Vals.ref1 r
  obtain ⟨w1, rfl, e1⟩ := vals1 rz
  obtain rfl : w1 = Value.bool b := e1
  obtain ⟨its, rv, ht, hz⟩ := I.tuple hs
  have hi := rv.ints
  have hl : its.length = (ns.map V.int).length := rv.length.symm
  obtain ⟨o, ho, hc, n, hd⟩ := ht
  show wpAny (model X.prog X.w) X.A (call (.builtin "sorted") [.ref a] [(Str.ofString "reverse", .bool b)]) _ _ s
  refine call_function_entry_kw kind_sorted plain_sorted entry_sorted (args_sorted_rev _ _) ?_
  unfold Builtin.«sorted»
  refine wpAny_bind (m := checkCount "sorted" 1 1 _) (wpAny_pure ?_)
  refine wpAny_bind (wpAny_collect_seq a (.inr rfl) ho hc hd (fun h' hk => ?_) (by rw [List.size_toArray]; omega))
  have ei : its.toArray.toList = its := by simp
  rw [ei]
  refine wpAny_bind (wpAny_newList ?_ (by omega))
  have I1 : Inv X pins σ H { s with heap := h' } := I.kept (t' := s.toks) hk
  have ho1 : (h'.push { cls := .type "list", data := .seq its.toArray }).get? h'.objs.size = some (seqObj "list" its.toArray 0) := Heap.get?_push_size _ rfl
  refine wpAny_bind (wpAny_holding (wpAny_call_entry_kw slot_list_sort ⟨_, ho1, rfl⟩ entry_list_sort ?_ (args_list_sort_rev _ _)))
  refine SrtR.list_sort_ordR (b := b) SrtO.swo_int ho1 (by omega) (fun h2 => SrtO.ints_sortable hi h2) fun out h1 h2 => ⟨_, rfl, wpAny_pure ⟨_, rfl, ?_⟩⟩
  obtain ⟨ns', k1, k2, k3⟩ := SrtR.ints_outR hi h1 h2
  obtain ⟨ep, he'⟩ := PyProof.Rows.sortedHeap_at (vs := its) (out := if b = true then out.toArray.reverse else out.toArray) ho1
  have hlen : (ns'.map V.int).length ≤ sizeLine := by
    rw [List.length_map, k2.length_eq]
    rw [List.length_map] at hz
    exact hz
  have e0 : ((if b = true then out.toArray.reverse else out.toArray).toList).toArray = (if b = true then out.toArray.reverse else out.toArray) := by rw [Array.toArray_toList]
  have nL : H h'.objs.size = none := I1.hok.fresh (Nat.le_refl _)
  refine ⟨.ref h'.objs.size, upd H h'.objs.size (.lst (ns'.map V.int)), I1.laid (t' := s.toks) (fun c u hu => ?_) (Nat.le_refl _) ⟨hlen, _, ep, vals_of_ints k1, by rw [e0]; exact he'⟩, rfl, q _ _ k2 k3 nL⟩
  have hne : c ≠ h'.objs.size := Nat.ne_of_lt (Heap.lt_size hu)
  have hu2 : (h'.push { cls := .type "list", data := .seq its.toArray }).get? c = some u := Heap.get?_push_of_some _ hu
  show (PyProof.Rows.sortedHeap (h'.push { cls := .type "list", data := .seq its.toArray }) h'.objs.size its (if b = true then out.toArray.reverse else out.toArray)).get? c = some u
  rw [PyProof.Rows.sortedHeap_old hne (Heap.lt_size hu2)]
  exact hu2
end K19

/-! K19C: first_bad, need_times, need_benches, need. -/
namespace K19
open PySem PySem.Spec PyProof.Rows L2
abbrev sBad : Stmt := topS 12
abbrev sTimes : Stmt := topS 13
abbrev sBenches : Stmt := topS 16
abbrev sNeed : Stmt := topS 17
theorem scBad : FnScope ["value", "many", "low", "high", "index", "item"] ["value", "many", "low", "high"] (defScope sBad) := ⟨rfl, rfl, rfl, by decide +kernel, rfl, by decide +kernel, by decide +kernel⟩
theorem scTimes : FnScope ["times", "index"] ["times"] (defScope sTimes) := ⟨rfl, rfl, rfl, by decide +kernel, rfl, by decide +kernel, by decide +kernel⟩
theorem scBenches : FnScope ["many"] ["many"] (defScope sBenches) := ⟨rfl, rfl, rfl, by decide +kernel, rfl, by decide +kernel, by decide +kernel⟩
theorem scNeed : FnScope ["times", "many"] ["times", "many"] (defScope sNeed) := ⟨rfl, rfl, rfl, by decide +kernel, rfl, by decide +kernel, by decide +kernel⟩
/-- what the module's checks lean on -/
structure Chk (K : PySem.W.Frag) (mg : Str → Option Value) where
  f1 : Addr
  f2 : Addr
  f3 : Addr
  fd1 : FuncData
  fd2 : FuncData
  fd3 : FuncData
  F1 : FnP K "is_integer" sInteger f1 fd1
  F2 : FnP K "is_in" sIn f2 fd2
  F3 : FnP K "is_list" sList f3 fd3
  g1 : mg "is_integer" = some (.ref f1)
  g2 : mg "is_in" = some (.ref f2)
  g3 : mg "is_list" = some (.ref f3)
  mi : mg "isinstance" = none
  mI : mg "int" = none
  mB : mg "bool" = none
  mT : mg "tuple" = none
  mL : mg "len" = none
  mE : mg "enumerate" = none
section
variable {P : Program} {w : World} {K : PySem.W.Frag} {mg : Str → Option Value} {base : Heap} {f : Addr} {fd : FuncData}
theorem Chk.G2 (C : Chk K mg) : FnOk P w K mg base CX0 2 C.f2 C.fd2 ["value", "least", "most"] spIn := ok_in C.F2 C.F1 C.g1 C.mi C.mI C.mB
theorem Chk.G3 (C : Chk K mg) : FnOk P w K mg base CX0 1 C.f3 C.fd3 ["value", "least", "most"] spList := ok_list C.F3 C.mi C.mT C.mL
theorem Chk.b2 (C : Chk K mg) : Binds K C.fd2 ["value", "least", "most"] [] := C.F2.bindsN fun _ _ _ _ _ _ us hl => match us, hl with | [_, _, _], _ => rfl
theorem Chk.b3 (C : Chk K mg) : Binds K C.fd3 ["value", "least", "most"] [] := C.F3.bindsN fun _ _ _ _ _ _ us hl => match us, hl with | [_, _, _], _ => rfl
theorem same_upd {H : Hp} {p : Addr} {o : HO} (h : H p = none) : Same H (upd H p o) := fun b x e => by
  rw [upd_ne (ne_of_none e h)]
  exact e
/-! ### first_bad -/
def spBad : Sp := fun vs H Q _ => ∃ (p : Addr) (ns : List Int) (lo hi : Int), vs = [.ref p, .int ns.length, .int lo, .int hi] ∧ H p = some (.tup (ns.map V.int)) ∧ (∀ x ∈ ns, lo ≤ x ∧ x ≤ hi) ∧ ∀ H', Same H H' → Q (.int (-1)) H'
theorem ok_bad (C : Chk K mg) (F : FnP K "first_bad" sBad f fd) : FnOk P w K mg base CX0 3 f fd ["value", "many", "low", "high"] spBad := by
  refine F.ok scBad (fun vs H Q E h => ?_) (fun cdv A outer s H vs Q E hr h => ?_)
  · obtain ⟨p, ns, lo, hi, rfl, _⟩ := h
    rfl
  · obtain ⟨p, ns, lo, hi, rfl, hp, hb, q⟩ := h
    refine ⟨_, PSs.nox (pss_cons (ps_if (pt_not (pt_val (pe_call C.G3 (hr.mono (by decide)) (by rfl) C.g3 C.F3.kp C.b3 .nil pass0 (pa_cons (pv 0) (pa_cons (pv 1) (pa_cons (pv 1) pa_nil)))))) pss_never pss_nil)
      (pss_cons (ps_for PassesOwn.never rfl (pi_enumT (by rfl) C.mE (pa_cons (pv 0) pa_nil))
          (pg_tup rfl (pgs_cons (pg_name (i := 4) scBad.nd rfl (.inl rfl)) (pgs_cons (pg_name (i := 5) scBad.nd rfl (.inl rfl)) pgs_nil)))
          (pss_one (ps_if (pt_not (pt_val (pe_call C.G2 hr (by rfl) C.g2 C.F2.kp C.b2 .nil pass0 (pa_cons (pv 5) (pa_cons (pv 2) (pa_cons (pv 3) pa_nil)))))) pss_never pss_nil)))
      (pss_one (ps_ret (pe_un un_neg pe_int))))), ?_⟩
    have hlen : ((ns.map V.int).length : Int) = (ns.length : Int) := by rw [List.length_map]
    refine ⟨_, rfl, _, rfl, _, rfl, p, ns.map V.int, ns.length, ns.length, rfl, hp, by omega, by omega, true, rfl, iteF ?_⟩
    refine ⟨.ref p, rfl, p, ns.map V.int, rfl, SqT.of hp, ?_⟩
    refine for_it walk_enumT (fun i σ H1 => Same H H1 ∧ ∃ y4 y5, σ = [some (.ref p), some (.int ns.length), some (.int lo), some (.int hi), y4, y5]) ⟨Same.refl H, none, none, rfl⟩ (fun i σ H1 _ h => SqT.of (h.1 _ _ hp)) (fun i x σ H1 H2 hi' hv y => ?_) (fun σ H1 h => ?_)
    · obtain ⟨sm, y4, y5, rfl⟩ := hv
      obtain ⟨T, x1, x2, rfl, nT, rfl, e1, e2⟩ := y
      rw [List.length_map] at hi'
      have e3 : (ns.map V.int)[i]? = some x2 := e2
      rw [List.getElem?_map, List.getElem?_eq_getElem hi'] at e3
      have ex2 : V.int ns[i] = x2 := Option.some.inj e3
      subst ex2
      refine ⟨T, [x1, .int ns[i]], rfl, SqT.of upd_same, rfl, x1, [.int ns[i]], rfl, .int ns[i], [], rfl, rfl, ?_⟩
      obtain ⟨h1, h2⟩ := hb ns[i] (List.getElem_mem hi')
      refine ⟨_, rfl, _, rfl, _, rfl, ns[i], lo, hi, rfl, h1, h2, true, rfl, iteF ?_⟩
      exact ⟨sm.trans (same_upd nT), some x1, some (.int ns[i]), rfl⟩
    · obtain ⟨sm, y4, y5, rfl⟩ := h
      exact ⟨1, rfl, q H1 sm⟩
/-! ### need_times, need_benches, need -/
def spTimes : Sp := fun vs H Q _ => ∃ (p : Addr) (ns : List Int), vs = [.ref p] ∧ H p = some (.tup (ns.map V.int)) ∧ 1 ≤ ns.length ∧ ns.length ≤ 10 ∧ (∀ x ∈ ns, 1 ≤ x ∧ x ≤ 60) ∧ ∀ H', Same H H' → Q .non H'
structure Chk2 (K : PySem.W.Frag) (mg : Str → Option Value) extends Chk K mg where
  f4 : Addr
  f5 : Addr
  f6 : Addr
  f7 : Addr
  fd4 : FuncData
  fd5 : FuncData
  fd6 : FuncData
  fd7 : FuncData
  F4 : FnP K "first_bad" sBad f4 fd4
  F5 : FnP K "need_times" sTimes f5 fd5
  F6 : FnP K "need_benches" sBenches f6 fd6
  F7 : FnP K "need" sNeed f7 fd7
  g4 : mg "first_bad" = some (.ref f4)
  g5 : mg "need_times" = some (.ref f5)
  g6 : mg "need_benches" = some (.ref f6)
  g7 : mg "need" = some (.ref f7)
  cJ : ∃ t, mg "MOST_JOBS" = some (.int 10 t)
  cT : ∃ t, mg "MOST_TIME" = some (.int 60 t)
  cB : ∃ t, mg "MOST_BENCHES" = some (.int 6 t)
theorem Chk2.G4 (C : Chk2 K mg) : FnOk P w K mg base CX0 3 C.f4 C.fd4 ["value", "many", "low", "high"] spBad := ok_bad C.toChk C.F4
theorem Chk2.b4 (C : Chk2 K mg) : Binds K C.fd4 ["value", "many", "low", "high"] [] := C.F4.bindsN fun _ _ _ _ _ _ us hl => match us, hl with | [_, _, _, _], _ => rfl
theorem ok_times (C : Chk2 K mg) : FnOk P w K mg base CX0 4 C.f5 C.fd5 ["times"] spTimes := by
  obtain ⟨tJ, gJ⟩ := C.cJ
  obtain ⟨tT, gT⟩ := C.cT
  refine C.F5.ok scTimes (fun vs H Q E h => ?_) (fun cdv A outer s H vs Q E hr h => ?_)
  · obtain ⟨p, ns, rfl, _⟩ := h
    rfl
  · obtain ⟨p, ns, rfl, hp, h1, h2, hb, q⟩ := h
    refine ⟨_, PSs.nox (pss_cons (ps_if (pt_not (pt_val (pe_call C.G3 (hr.mono (by decide)) (by rfl) C.g3 C.F3.kp C.b3 .nil pass0 (pa_cons (pv 0) (pa_cons pe_int (pa_cons (pe_glob (v := .int 10) (by rfl) gJ ⟨_, rfl⟩) pa_nil)))))) pss_never pss_nil)
      (pss_cons (ps_set (i := 1) scTimes.nd rfl (.inl rfl) (pe_call C.G4 hr (by rfl) C.g4 C.F4.kp C.b4 .nil pass0 (pa_cons (pv 0) (pa_cons (pe_callB call_len_seq (by rfl) C.mL PySem.boot_len (pa_cons (pv 0) pa_nil)) (pa_cons pe_int (pa_cons (pe_glob (v := .int 60) (by rfl) gT ⟨_, rfl⟩) pa_nil))))))
      (pss_one (ps_if (pt_cmpR op_ne (pv 1) (pe_un un_neg pe_int) (nomark _)) pss_never pss_nil)))), ?_⟩
    have hlen : ((ns.map V.int).length : Int) = (ns.length : Int) := by rw [List.length_map]
    refine ⟨_, rfl, p, ns.map V.int, 1, 10, rfl, hp, by omega, by omega, true, rfl, iteF ?_⟩
    refine ⟨_, rfl, _, rfl, p, ns.map V.int, rfl, .inr (SqT.of hp), ?_⟩
    refine ⟨p, ns, 1, 60, by rw [hlen] <;> rfl, hp, hb, fun H' sm => ?_⟩
    refine ⟨_, rfl, 1, rfl, rfl, _, rfl, iteNS rfl ?_⟩
    exact q H' sm
def spBenches : Sp := fun vs H Q _ => ∃ m : Int, vs = [.int m] ∧ 1 ≤ m ∧ m ≤ 6 ∧ Q .non H
theorem ok_benches (C : Chk2 K mg) : FnOk P w K mg base CX0 3 C.f6 C.fd6 ["many"] spBenches := by
  obtain ⟨tB, gB⟩ := C.cB
  refine C.F6.ok scBenches (fun vs H Q E h => ?_) (fun cdv A outer s H vs Q E hr h => ?_)
  · obtain ⟨m, rfl, _⟩ := h
    rfl
  · obtain ⟨m, rfl, h1, h2, q⟩ := h
    refine ⟨_, PSs.nox (pss_one (ps_if (pt_not (pt_val (pe_call C.G2 hr (by rfl) C.g2 C.F2.kp C.b2 .nil pass0 (pa_cons (pv 0) (pa_cons pe_int (pa_cons (pe_glob (v := .int 6) (by rfl) gB ⟨_, rfl⟩) pa_nil)))))) pss_never pss_nil)), ?_⟩
    exact ⟨_, rfl, m, 1, 6, rfl, h1, h2, true, rfl, iteF q⟩
def spNeed : Sp := fun vs H Q _ => ∃ (p : Addr) (ns : List Int) (m : Int), vs = [.ref p, .int m] ∧ H p = some (.tup (ns.map V.int)) ∧ 1 ≤ ns.length ∧ ns.length ≤ 10 ∧ (∀ x ∈ ns, 1 ≤ x ∧ x ≤ 60) ∧ 1 ≤ m ∧ m ≤ 6 ∧ ∀ H', Same H H' → Q .non H'
theorem Chk2.G5 (C : Chk2 K mg) : FnOk P w K mg base CX0 4 C.f5 C.fd5 ["times"] spTimes := ok_times C
theorem Chk2.G6 (C : Chk2 K mg) : FnOk P w K mg base CX0 3 C.f6 C.fd6 ["many"] spBenches := ok_benches C
theorem Chk2.b5 (C : Chk2 K mg) : Binds K C.fd5 ["times"] [] := C.F5.bindsN fun _ _ _ _ _ _ us hl => match us, hl with | [_], _ => rfl
theorem Chk2.b6 (C : Chk2 K mg) : Binds K C.fd6 ["many"] [] := C.F6.bindsN fun _ _ _ _ _ _ us hl => match us, hl with | [_], _ => rfl
theorem ok_need (C : Chk2 K mg) : FnOk P w K mg base CX0 5 C.f7 C.fd7 ["times", "many"] spNeed := by
  refine C.F7.ok scNeed (fun vs H Q E h => ?_) (fun cdv A outer s H vs Q E hr h => ?_)
  · obtain ⟨p, ns, m, rfl, _⟩ := h
    rfl
  · obtain ⟨p, ns, m, rfl, hp, h1, h2, hb, h3, h4, q⟩ := h
    refine ⟨_, PSs.nox (pss_cons (ps_expr (pe_call C.G5 hr (by rfl) C.g5 C.F5.kp C.b5 .nil pass0 (pa_cons (pv 0) pa_nil)))
      (pss_one (ps_expr (pe_call C.G6 (hr.mono (by decide)) (by rfl) C.g6 C.F6.kp C.b6 .nil pass0 (pa_cons (pv 1) pa_nil))))), ?_⟩
    refine ⟨_, rfl, p, ns, rfl, hp, h1, h2, hb, fun H' sm => ?_⟩
    exact ⟨_, rfl, m, rfl, h3, h4, q H' sm⟩
theorem Chk2.G7 (C : Chk2 K mg) : FnOk P w K mg base CX0 5 C.f7 C.fd7 ["times", "many"] spNeed := ok_need C
theorem Chk2.b7 (C : Chk2 K mg) : Binds K C.fd7 ["times", "many"] [] := C.F7.bindsN fun _ _ _ _ _ _ us hl => match us, hl with | [_, _], _ => rfl
end
end K19

/-! K19D: short_sum, short_lists. -/
namespace K19
open PySem PySem.Spec PyProof.Rows L2
abbrev sSum : Stmt := topS 18
abbrev sLists : Stmt := topS 19
abbrev nSum : List Str := ["times", "many", "some", "at", "time"]
abbrev nLists : List Str := ["times", "many", "order", "machine"]
theorem scSum : FnScope nSum ["times", "many"] (defScope sSum) := ⟨rfl, rfl, rfl, by decide +kernel, rfl, by decide +kernel, by decide +kernel⟩
theorem scLists : FnScope nLists ["times", "many"] (defScope sLists) := ⟨rfl, rfl, rfl, by decide +kernel, rfl, by decide +kernel, by decide +kernel⟩
theorem same_at {H H' : Hp} {p : Addr} {o : HO} (s : Same H H') (h : H p = none) : Same H (upd H' p o) := fun b x e => by
  rw [upd_ne (ne_of_none e h)]
  exact s _ _ e
/-- ints of a list by their places -/
theorem getI {xs : List Int} {i : Nat} {x : V} (h : (xs.map V.int)[i]? = some x) : i < xs.length ∧ x = .int (xs.getD i 0) := by
  rw [List.getElem?_map] at h
  cases e : xs[i]? with
  | none => rw [e] at h; cases h
  | some v =>
    rw [e] at h
    exact ⟨(List.getElem?_eq_some_iff.mp e).1, by rw [List.getD_eq_getElem?_getD, e]; exact (Option.some.inj h).symm⟩
theorem small_len {n : Nat} (h : n ≤ 1000) : n ≤ sizeLine := Nat.le_of_lt (small1000 h)
def spSum : Sp := fun vs H Q _ => ∃ (p : Addr) (ts : List Int) (m : Nat), vs = [.ref p, .int (m : Nat)] ∧ H p = some (.tup (ts.map V.int)) ∧ 1 ≤ ts.length ∧ ts.length ≤ 10 ∧ (∀ x ∈ ts, 1 ≤ x ∧ x ≤ 60) ∧ 1 ≤ m ∧ m ≤ 6 ∧
  ∀ (H' : Hp) (ds : List Int), Same H H' → ds.Perm ts → Falling ds → Q (.int (G m 0 ds)) H'
section
variable {P : Program} {w : World} {K : PySem.W.Frag} {mg : Str → Option Value} {base : Heap} {f : Addr} {fd : FuncData}
theorem ok_sum (C : Chk2 K mg) (F : FnP K "short_sum" sSum f fd) (mS : mg "sorted" = none) (mU : mg "sum" = none) : FnOk P w K mg base CX0 6 f fd ["times", "many"] spSum := by
  refine F.ok scSum (fun vs H Q E h => ?_) (fun cdv A outer s H vs Q E hr h => ?_)
  · obtain ⟨p, ts, m, rfl, _⟩ := h
    rfl
  · obtain ⟨p, ts, m, rfl, hp, h1, h2, hb, h3, h4, q⟩ := h
    refine ⟨_, PSs.nox (pss_cons (ps_expr (pe_call C.G7 hr (by rfl) C.g7 C.F7.kp C.b7 .nil pass0 (pa_cons (pv 0) (pa_cons (pv 1) pa_nil))))
      (pss_cons (ps_set (i := 2) scSum.nd rfl (.inl rfl) (pe_callBK (cr_sortedRevT (b := true)) (by rfl) mS boot_sorted (pa_cons (pv 0) pa_nil) (pk_cons pe_bl pk_nil)))
      (pss_one (ps_ret (pe_callB (cr_sum rfl) (by rfl) mU (by decide +kernel) (pa_cons
        (pe_lc (own := [("at", 3), ("time", 4)]) (g := gTup K 2 (gCons (gName 3) (gCons (gName 4) gNil))) (tt := tYes) rfl scSum.nd (pi_enum (by rfl) C.mE (pa_cons (pv 2) pa_nil)) (blkOk_by (N := nSum) (sc := defScope sSum) (by decide +kernel))
          (fun _ _ _ _ _ => pg_tup rfl (pgs_cons (pg_name (i := 3) scSum.nd rfl (.inl rfl)) (pgs_cons (pg_name (i := 4) scSum.nd rfl (.inl rfl)) pgs_nil)))
          (fun _ _ _ _ _ => pts_nil) (fun _ _ _ _ _ => pe_op op_mul (pv 4) (pe_op op_add (pe_op op_fdiv (pv 3) (pv 1)) pe_int))) pa_nil)))))), ?_⟩
    refine ⟨_, rfl, _, rfl, p, ts, m, rfl, hp, h1, h2, hb, by omega, by omega, fun H1 sm1 => ?_⟩
    refine ⟨_, rfl, p, ts, rfl, rfl, SqT.of (sm1 _ _ hp), fun ds l hperm hord nl => ?_⟩
    have hf : Falling ds := hord
    have sm2 : Same H1 (upd H1 l (.lst (ds.map V.int))) := same_upd nl
    have hlen : ds.length = ts.length := hperm.length_eq
    refine ⟨_, rfl, l, ds.map V.int, rfl, SqL.of upd_same, fun D nD => ?_⟩
    have hl : (upd H1 l (.lst (ds.map V.int))) l = some (.lst (ds.map V.int)) := upd_same
    generalize upd H1 l (.lst (ds.map V.int)) = H2 at *
    refine lc_it walk_enum (fun i H3 => Same H2 H3 ∧ H3 D = some (.lst (((List.range i).map (gterm m ds)).map V.int))) ⟨same_upd nD, upd_same⟩ (fun i H3 _ h => SqL.of (h.1 _ _ hl)) (fun i x H3 H4 hi hv y => ?_) (fun H3 h => ?_)
    · obtain ⟨s3, e3⟩ := hv
      obtain ⟨T, x1, x2, rfl, nT, rfl, e1, e2⟩ := y
      obtain rfl : V.int (i : Nat) = x1 := Option.some.inj e1
      obtain ⟨hi', rfl⟩ := getI e2
      rw [List.length_map] at hi
      refine ⟨T, [.int (i : Nat), .int (ds.getD i 0)], rfl, SqT.of upd_same, rfl, _, _, rfl, _, _, rfl, rfl, rfl, ?_⟩
      have hx : 1 ≤ ds.getD i 0 ∧ ds.getD i 0 ≤ 60 := by
        rw [List.getD_eq_getElem?_getD, List.getElem?_eq_getElem hi]
        exact hb _ (hperm.mem_iff.mp (List.getElem_mem hi))
      refine ⟨_, rfl, _, rfl, _, rfl, _, _, rfl, rfl, ⟨by omega, by omega⟩, _, _, rfl, rfl, _, _, rfl, rfl, .inl ⟨by omega, by omega⟩, ?_⟩
      have nTD : D ≠ T := ne_of_none e3 nT
      refine ⟨_, (upd_ne nTD).trans e3, ?_, same_at (s3.trans (same_upd nT)) nD, ?_⟩
      · rw [List.length_map, List.length_map, List.length_range]
        exact small1000 (by omega)
      · rw [upd_same, List.range_succ, List.map_append, List.map_append]
        have e4 : gterm m ds i = ds.getD i 0 * ((i : Int) / (m : Int) + 1) := by
          unfold gterm
          rw [Int.natCast_add, Int.natCast_ediv]
          rfl
        show _ = some (HO.lst (_ ++ [V.int (gterm m ds i)]))
        rw [e4]
    · obtain ⟨s3, e3⟩ := h
      rw [List.length_map] at e3
      refine ⟨D, (List.range ds.length).map (gterm m ds), rfl, SqL.of e3, ?_⟩
      rw [gterms_all]
      exact q H3 ds ((sm1.trans sm2).trans s3) hperm hf
/-! ### short_lists -/
abbrev jv (j : Nat) : V := .int (j : Nat)
/-- tuples of jobs at addresses -/
def LsAt (H : Hp) (as : List Addr) (L : List (List Nat)) : Prop := as.length = L.length ∧ ∀ (i : Nat) (a : Addr) (l : List Nat), as[i]? = some a → L[i]? = some l → H a = some (.tup (l.map jv))
theorem LsAt.nil {H : Hp} : LsAt H [] [] := ⟨rfl, fun i a l e => by simp at e⟩
theorem LsAt.keep {H H' : Hp} {as : List Addr} {L : List (List Nat)} (h : LsAt H as L) (k : ∀ a xs, H a = some (.tup xs) → H' a = some (.tup xs)) : LsAt H' as L := ⟨h.1, fun i a l e1 e2 => k _ _ (h.2 i a l e1 e2)⟩
theorem LsAt.snoc {H : Hp} {as : List Addr} {L : List (List Nat)} {a : Addr} {l : List Nat} (h : LsAt H as L) (ha : H a = some (.tup (l.map jv))) : LsAt H (as ++ [a]) (L ++ [l]) := by
  refine ⟨by rw [List.length_append, List.length_append, h.1]; rfl, fun i b k e1 e2 => ?_⟩
  by_cases hi : i < as.length
  · rw [List.getElem?_append_left hi] at e1
    rw [List.getElem?_append_left (by rw [← h.1]; exact hi)] at e2
    exact h.2 i b k e1 e2
  · rw [List.getElem?_append_right (by omega)] at e1
    rw [List.getElem?_append_right (by rw [← h.1]; omega), ← h.1] at e2
    cases z : i - as.length with
    | zero =>
      rw [z] at e1 e2
      have q1 : a = b := by simpa using e1
      have q2 : l = k := by simpa using e2
      rw [← q1, ← q2]
      exact ha
    | succ n =>
      rw [z] at e1
      simp at e1
theorem pick_jobs {xs : List Nat} : ∀ {js : List Nat}, (∀ j ∈ js, j < xs.length) → js.filterMap ((xs.map jv)[·]?) = (js.map fun k => xs.getD k 0).map jv
  | [], _ => rfl
  | j :: js, h => by
    have hj := h j List.mem_cons_self
    have e : (xs.map jv)[j]? = some (jv (xs.getD j 0)) := by
      rw [List.getElem?_map, List.getElem?_eq_getElem hj, List.getD_eq_getElem?_getD, List.getElem?_eq_getElem hj]
      rfl
    rw [List.filterMap_cons_some e, pick_jobs fun k hk => h k (List.mem_cons_of_mem _ hk)]
    rfl
theorem stepV_rounds {xs : List Nat} {m i : Nat} (hn : xs.length < 6) (hm : m < 4) (hi : i < m) : stepV (xs.map jv) ((i : Nat) : Int) ((m : Nat) : Int) = (rounds xs m i).map jv := by
  unfold stepV rounds
  rw [List.length_map, stepIx_on _ hn _ hm _ hi]
  exact pick_jobs fun j hj => on_lt hj
def spLists (Pt : Addr) : Sp := fun vs H Q _ => ∃ (p : Addr) (ts : List Int) (m : Nat), vs = [.ref p, .int (m : Nat)] ∧ H p = some (.tup (ts.map V.int)) ∧ H Pt = some (.tbl #[]) ∧ 1 ≤ ts.length ∧ ts.length ≤ 5 ∧ (∀ x ∈ ts, 1 ≤ x ∧ x ≤ 60) ∧ 1 ≤ m ∧ m ≤ 3 ∧
  ∀ (H' : Hp) (r : Addr) (as : List Addr), LamX.ExtN H H' → H' r = some (.tup (as.map V.ref)) → LsAt H' as ((List.range m).map (rounds (ordOf ts) m)) → Q (.ref r) H'
theorem ok_lists (C : Chk2 K mg) (F : FnP K "short_lists" sLists f fd) (mS : mg "sorted" = none) (mR : mg "range" = none) {c Pt : Addr} (hcode : fd.code = .ref c) (TB : LamX.TabB base mg c Pt) : FnOk P w K mg base CX0 6 f fd ["times", "many"] (spLists Pt) := by
  obtain ⟨oc, od, dV, kV, doc, pm, an, cdv, ct, osl, rfl, lk, hcd, _, _⟩ := F.ex
  obtain rfl : cdv = .ref c := hcode
  refine fn_of lk hcd scLists (fun vs H Q E h => ?_) (fun A outer s H vs Q E hr h => ?_)
  · obtain ⟨p, ts, m, rfl, _⟩ := h
    rfl
  · obtain ⟨p, ts, m, rfl, hp, hPt, h1, h2, hb, h3, h4, q⟩ := h
    refine ⟨_, PSs.nox (pss_cons (ps_expr (pe_call C.G7 hr (by rfl) C.g7 C.F7.kp C.b7 .nil pass0 (pa_cons (pv 0) (pa_cons (pv 1) pa_nil))))
      (pss_cons (ps_set (i := 2) scLists.nd rfl (.inr rfl) (pe_sortLam (i := 0) (T := [(Pt, _)]) (c := c) (P := Pt) (by rfl) mS (by rfl) mR rfl (hr.mono (by decide)) (pe_callB call_len_seq (by rfl) C.mL PySem.boot_len (pa_cons (pv 0) pa_nil)) rfl rfl TB rfl (List.mem_singleton.mpr rfl) (fun z hz _ => by rw [List.mem_singleton.mp hz])))
      (pss_one (ps_ret (pe_callTy (cTup K) (by rfl) C.mT boot_tuple (pa_cons
        (pe_lc (own := [("machine", 3)]) (g := gName 3) (tt := tYes) rfl scLists.nd (pi_range1 (by rfl) mR (pa_cons (pv 1) pa_nil)) (blkOk_by (N := nLists) (sc := defScope sLists) (by decide +kernel))
          (fun _ _ _ _ _ => pg_name (i := 3) scLists.nd rfl (.inl rfl)) (fun _ _ _ _ _ => pts_nil)
          (fun _ _ _ _ _ => pe_callTy (cTup K) (by rfl) C.mT boot_tuple (pa_cons (pe_stepL K (pv 2) (po_some (pv 3)) (po_some (pv 1))) pa_nil))) pa_nil)))))), ?_⟩
    refine ⟨_, rfl, _, rfl, p, ts, m, rfl, hp, h1, by omega, hb, by omega, by omega, fun H1 sm1 => ?_⟩
    have hp1 := sm1 _ _ hp
    refine ⟨p, ts, rfl, by omega, _, rfl, p, ts.map V.int, rfl, .inr (SqT.of hp1), by rw [List.length_map], hp1, fun z hz => ?_, fun H2 l eN nl => ?_⟩
    · rw [List.mem_singleton.mp hz]
      exact LamX.TabS.nil (sm1 _ _ hPt)
    · have hlen : (ordOf ts).length = ts.length := by rw [(ordOf_perm ts).length_eq, List.length_range]
      have hl : (upd H2 l (.lst ((ordOf ts).map jv))) l = some (.lst ((ordOf ts).map jv)) := upd_same
      have eN2 : LamX.ExtN H (upd H2 l (.lst ((ordOf ts).map jv))) := (LamX.ExtN.of sm1).trans (eN.trans (LamX.ExtN.of (same_upd nl)))
      refine ⟨_, rfl, (m : Nat), rfl, by omega, by omega, fun D nD => ?_⟩
      have em : ((m : Nat) : Int).toNat = m := by omega
      rw [em]
      generalize upd H2 l (.lst ((ordOf ts).map jv)) = H3 at *
      refine lc_range (fun i H4 => Same H3 H4 ∧ ∃ as : List Addr, H4 D = some (.lst (as.map V.ref)) ∧ LsAt H4 as ((List.range i).map (rounds (ordOf ts) m))) ⟨same_upd nD, [], upd_same, .nil⟩ (fun i H4 hi hv => ?_) (fun H4 hv => ?_)
      · obtain ⟨s4, as, e4, la⟩ := hv
        have hl4 := s4 _ _ hl
        have e0 : (0 : Int) + (i : Nat) = ((i : Nat) : Int) := by omega
        rw [e0]
        refine ⟨rfl, ?_⟩
        refine ⟨_, rfl, _, rfl, _, rfl, _, rfl, _, rfl, l, (ordOf ts).map jv, i, m, rfl, rfl, rfl, by omega, SqL.of hl4, ?_, fun p2 np2 => ?_⟩
        · rw [stepV_rounds (by omega) (by omega) hi, List.length_map]
          unfold rounds
          rw [List.length_map]
          refine Nat.le_trans (List.length_filter_le _ _) ?_
          rw [List.length_range]
          exact small_len (by omega)
        · rw [stepV_rounds (by omega) (by omega) hi]
          refine ⟨p2, _, rfl, SqL.of upd_same, fun p3 np3 => ?_⟩
          have s5 : Same H4 (upd H4 p2 (.lst ((rounds (ordOf ts) m i).map jv))) := same_upd np2
          have s6 : Same (upd H4 p2 (.lst ((rounds (ordOf ts) m i).map jv))) (upd (upd H4 p2 (.lst ((rounds (ordOf ts) m i).map jv))) p3 (.tup ((rounds (ordOf ts) m i).map jv))) := same_upd np3
          have hp3 : (upd (upd H4 p2 (.lst ((rounds (ordOf ts) m i).map jv))) p3 (.tup ((rounds (ordOf ts) m i).map jv))) p3 = some (.tup ((rounds (ordOf ts) m i).map jv)) := upd_same
          have s7 := s5.trans s6
          generalize upd (upd H4 p2 (.lst ((rounds (ordOf ts) m i).map jv))) p3 (.tup ((rounds (ordOf ts) m i).map jv)) = H5 at *
          have e5 := s7 _ _ e4
          refine ⟨_, e5, ?_, same_at (s4.trans s7) nD, as ++ [p3], ?_, ?_⟩
          · rw [List.length_map, la.1, List.length_map, List.length_range]
            exact small1000 (by omega)
          · rw [upd_same, List.map_append]
            rfl
          · rw [List.range_succ, List.map_append]
            refine LsAt.snoc ((la.keep fun a xs e => s7 _ _ e).keep fun a xs e => ?_) ?_
            · exact (upd_ne (ne_of e e5 (by intro z; cases z))).trans e
            · exact (upd_ne (ne_of hp3 e5 (by intro z; cases z))).trans hp3
      · obtain ⟨s4, as, e4, la⟩ := hv
        refine ⟨D, _, rfl, SqL.of e4, fun r nr => ?_⟩
        exact q _ r as (eN2.trans (LamX.ExtN.of (s4.trans (same_upd nr)))) upd_same (la.keep fun a xs e => same_upd nr _ _ e)
end
end K19

/-! K19E: sum_of_lists. -/
namespace K19
open PySem PySem.Spec PyProof.Rows L2
/-- a loop over a walk, whatever its turn is -/
theorem loop_w {J : It} {n : Nat} {G : Hp → Prop} {Y : Nat → Hp → V → Hp → Prop} (w : Walk J n G Y) {H0 : Hp} {Qd : Hp → Prop} {B : V → Hp → (Hp → Prop) → Prop} (Pv : Nat → Hp → Prop) (h0 : Pv 0 H0) (hG : ∀ i H, i ≤ n → Pv i H → G H)
    (hs : ∀ i x H H', i < n → Pv i H → Y i H x H' → B x H' (Pv (i + 1))) (hd : ∀ H, Pv n H → Qd H) :
    ∃ W : Nat → Nat → Hp → Prop, (∃ m, W 0 m H0) ∧ ∀ i m H, W i m H → (J.stop i H ∧ Qd H) ∨ (J.go i H ∧ ∃ Nx : Hp → Prop, (∀ H', Nx H' → ∃ m', m' < m ∧ W (i + 1) m' H') ∧ ∀ x H', J.yld i H x H' → B x H' Nx) := by
  refine ⟨fun i m H => m = n - i ∧ i ≤ n ∧ Pv i H, ⟨n, by simp, Nat.zero_le _, h0⟩, ?_⟩
  rintro i m H ⟨rfl, hi, p⟩
  have q := hG i H hi p
  by_cases hlt : i < n
  · exact .inr ⟨w.goes i H hlt q, Pv (i + 1), fun H' p' => ⟨n - (i + 1), by omega, rfl, hlt, p'⟩, fun x H' y => hs i x H H' hlt p (w.yields i H x H' hlt q y)⟩
  · have e : i = n := by omega
    subst e
    exact .inl ⟨w.stops H q, hd H p⟩
theorem rising_unique {xs ys : List Int} (hp : xs.Perm ys) (hx : Rising xs) (hy : Rising ys) : xs = ys := by
  have e : xs.reverse = ys.reverse := falling_unique ((List.reverse_perm xs).trans (hp.trans (List.reverse_perm ys).symm)) (List.pairwise_reverse.mpr hx) (List.pairwise_reverse.mpr hy)
  have := congrArg List.reverse e
  simpa using this
def ji (j : Nat) : Int := (j : Nat)
theorem map_jv (js : List Nat) : js.map jv = (js.map ji).map V.int := by
  rw [List.map_map]
  rfl
theorem rgV_jobs (n : Nat) : rgV 0 ((n : Nat) : Int) = ((List.range n).map ji).map V.int := by
  unfold rgV
  rw [List.map_map]
  have e : (((n : Nat) : Int) - 0).toNat = n := by omega
  rw [e]
  refine List.map_congr_left fun i _ => ?_
  show V.int (0 + (i : Nat)) = V.int (i : Nat)
  rw [Int.zero_add]
theorem range_rising (n : Nat) : Rising ((List.range n).map ji) := by
  refine List.pairwise_map.mpr ?_
  refine (List.pairwise_lt_range).imp fun h => ?_
  unfold ji
  omega
theorem dp_ints {K : PySem.W.Frag} {H : Hp} : ∀ ns : List Int, DpAll K H (ns.map V.int) (ns.map .int)
  | [] => .nil
  | n :: ns => .cons (.int n) (dp_ints ns)
theorem all_rep (n : Nat) : (List.replicate n true).all id = true := by
  rw [List.all_eq_true]
  intro b hb
  rw [(List.mem_replicate.mp hb).2]
  rfl
theorem lay_ints : ∀ ns : List Int, PyData.canLayAll0 (ns.map .int) = true
  | [] => by simp [PyData.canLayAll0]
  | n :: ns => by
    have ih := lay_ints ns
    simp only [List.map_cons, PyData.canLayAll0, ih, Bool.and_true]
    simp [PyData.canLay0]
theorem shaped_ints (ns : List Int) : SeqAt.shaped (.list (ns.map .int)) = true := by
  unfold SeqAt.shaped
  have h1 : (PyData.list (ns.map .int)).canLay0 = true := by
    simp only [PyData.canLay0]
    exact lay_ints ns
  have h2 : (PyData.list (ns.map .int)).depth ≤ 64 := by
    simp only [PyData.depth]
    rw [PySem.W.depth_ints ns]
    omega
  rw [h1, decide_eq_true h2]
  rfl
theorem eqv_ints (ns : List Int) : PyData.eqv (.list (ns.map .int)) (.list (ns.map .int)) = true := SeqAt.eqv_refl _ (SeqAt.canLay_of_shaped (shaped_ints ns))
abbrev sSumL : Stmt := topS 20
abbrev nSumL : List Str := ["times", "lists", "part", "job", "every", "total", "day"]
theorem scSumL : FnScope nSumL ["times", "lists"] (defScope sSumL) := ⟨rfl, rfl, rfl, by decide +kernel, rfl, by decide +kernel, by decide +kernel⟩
def spSumL : Sp := fun vs H Q _ => ∃ (p lp : Addr) (ts : List Int) (as : List Addr) (L : List (List Nat)), vs = [.ref p, .ref lp] ∧ H p = some (.tup (ts.map V.int)) ∧ 1 ≤ ts.length ∧ ts.length ≤ 10 ∧ (∀ x ∈ ts, 1 ≤ x ∧ x ≤ 60) ∧
  H lp = some (.tup (as.map V.ref)) ∧ LsAt H as L ∧ 1 ≤ L.length ∧ L.length ≤ 6 ∧ L.flatten.Perm (List.range ts.length) ∧ ∀ H', Same H H' → Q (.int (ends ts L)) H'
theorem getR {as : List Addr} {i : Nat} {x : V} (h : (as.map V.ref)[i]? = some x) : ∃ a, as[i]? = some a ∧ x = .ref a := by
  rw [List.getElem?_map] at h
  cases e : as[i]? with
  | none => rw [e] at h; cases h
  | some a =>
    rw [e] at h
    exact ⟨a, rfl, (Option.some.inj h).symm⟩
theorem LsAt.at {H : Hp} {as : List Addr} {L : List (List Nat)} (h : LsAt H as L) {i : Nat} {a : Addr} (e : as[i]? = some a) : ∃ l, L[i]? = some l ∧ H a = some (.tup (l.map jv)) := by
  have hi : i < L.length := by
    rw [← h.1]
    exact (List.getElem?_eq_some_iff.mp e).1
  exact ⟨L[i], List.getElem?_eq_getElem hi, h.2 i a _ e (List.getElem?_eq_getElem hi)⟩
theorem getJ {js : List Nat} {i : Nat} {x : V} (h : (js.map jv)[i]? = some x) : ∃ j, js[i]? = some j ∧ x = jv j := by
  rw [List.getElem?_map] at h
  cases e : js[i]? with
  | none => rw [e] at h; cases h
  | some a =>
    rw [e] at h
    exact ⟨a, rfl, (Option.some.inj h).symm⟩
theorem tm_at {ts : List Int} {j : Nat} (h : j < ts.length) : (ts.map V.int)[j]? = some (.int (tm ts j)) := by
  rw [List.getElem?_map, List.getElem?_eq_getElem h]
  simp [tm, List.getD_eq_getElem?_getD, List.getElem?_eq_getElem h]
theorem take_flat {L : List (List Nat)} {i : Nat} {l : List Nat} (h : L[i]? = some l) : (L.take (i + 1)).flatten = (L.take i).flatten ++ l := by
  rw [List.take_add_one, h, List.flatten_append]
  simp
theorem take_ends {ts : List Int} {L : List (List Nat)} {i : Nat} {l : List Nat} (h : L[i]? = some l) : ends ts (L.take (i + 1)) = ends ts (L.take i) + cost (l.map (tm ts)) := by
  unfold ends
  rw [List.take_add_one, h, List.map_append, sum_app]
  simp
section
variable {P : Program} {w : World} {K : PySem.W.Frag} {mg : Str → Option Value} {base : Heap} {f : Addr} {fd : FuncData}
set_option maxHeartbeats 1000000 in
theorem ok_sumL (C : Chk2 K mg) (F : FnP K "sum_of_lists" sSumL f fd) (mS : mg "sorted" = none) (mR : mg "range" = none) (mA : mg "all" = none) (mLi : mg "list" = none) : FnOk P w K mg base CX0 6 f fd ["times", "lists"] spSumL := by
  obtain ⟨tB, gB⟩ := C.cB
  refine F.ok scSumL (fun vs H Q E h => ?_) (fun cdv A outer s H vs Q E hr h => ?_)
  · obtain ⟨p, lp, ts, as, L, rfl, _⟩ := h
    rfl
  · obtain ⟨p, lp, ts, as, L, rfl, hp, h1, h2, hb, hlp, la, h3, h4, hperm, q⟩ := h
    refine ⟨_, PSs.nox (pss_cons (ps_expr (pe_call C.G5 (hr.mono (by decide)) (by rfl) C.g5 C.F5.kp C.b5 .nil pass0 (pa_cons (pv 0) pa_nil)))
      (pss_cons (ps_if (PW.pt (pw_or (pt_not (pt_val (pe_call C.G3 (hr.mono (by decide)) (by rfl) C.g3 C.F3.kp C.b3 .nil pass0 (pa_cons (pv 1) (pa_cons pe_int (pa_cons (pe_glob (v := .int 6) (by rfl) gB ⟨_, rfl⟩) pa_nil))))))
          (pw_or1 (pt_not (pt_val (pe_callB (cr_all rfl) (by rfl) mA boot_all (pa_cons
            (pe_lc (own := [("part", 2)]) (g := gName 2) (tt := tYes) rfl scSumL.nd (pi_tup (pv 1)) (blkOk_by (N := nSumL) (sc := defScope sSumL) (by decide +kernel))
              (fun _ _ _ _ _ => pg_name (i := 2) scSumL.nd rfl (.inl rfl)) (fun _ _ _ _ _ => pts_nil)
              (fun _ _ _ _ _ => pe_callB (cIsi K) (by rfl) C.mi boot_isi (pa_cons (pv 2) (pa_cons (pe_bltn (v := .ty "tuple") (by rfl) C.mT boot_tuple rfl) pa_nil)))) pa_nil))))))) pss_never pss_nil)
      (pss_cons (ps_setLc2 (i := 4) (own := [("part", 2), ("job", 3)]) (vs1 := [3]) (g := gName 2) (g1 := gName 3) (tt := tYes) (tt1 := tYes) rfl scSumL.nd rfl rfl (sw_true rfl rfl rfl (by decide +kernel)) (pi_tup (pv 1)) (blkOk_by (N := nSumL) (sc := defScope sSumL) (by decide +kernel)) (by decide)
          (fun _ _ _ _ _ => pg_name (i := 2) scSumL.nd rfl (.inl rfl)) (fun _ _ _ _ _ => pts_nil) (wi1 := iTup K (tVar 2)) (fun _ _ _ _ _ => pi_tup (pv 2)) (fun _ _ _ _ _ => pg_name (i := 3) scSumL.nd rfl (.inl rfl)) (fun _ _ _ _ _ => pts_nil) (fun _ _ _ _ _ => pv 3))
      (pss_cons (ps_if (PW.pt (pw_or (pt_not (pt_val (pe_callB (cr_all rfl) (by rfl) mA boot_all (pa_cons
            (pe_lc (own := [("job", 3)]) (g := gName 3) (tt := tYes) rfl scSumL.nd (pi_list (pv 4)) (blkOk_by (N := nSumL) (sc := defScope sSumL) (by decide +kernel))
              (fun _ _ _ _ _ => pg_name (i := 3) scSumL.nd rfl (.inl rfl)) (fun _ _ _ _ _ => pts_nil)
              (fun _ _ _ _ _ => pe_call C.G2 (hr.mono (by decide)) (by rfl) C.g2 C.F2.kp C.b2 .nil pass0 (pa_cons (pv 3) (pa_cons pe_int (pa_cons (pe_op op_sub (pe_callB (cLen K) (by rfl) C.mL PySem.boot_len (pa_cons (pv 0) pa_nil)) pe_int) pa_nil))))) pa_nil))))
          (pw_or1 (pt_cmpR (op_neD hr.units) (pe_callB cr_sorted (by rfl) mS boot_sorted (pa_cons (pv 4) pa_nil)) (pe_listRg rfl (by rfl) mLi (prg_1 (by rfl) mR (pe_callB call_len_seq (by rfl) C.mL PySem.boot_len (pa_cons (pv 0) pa_nil)))) (nomark _))))) pss_never pss_nil)
      (pss_cons (ps_set (i := 5) scSumL.nd rfl (.inl rfl) pe_int)
      (pss_cons (ps_for PassesOwn.never rfl (pi_tup (pv 1)) (pg_name (i := 2) scSumL.nd rfl (.inl rfl))
          (pss_cons (ps_set (i := 6) scSumL.nd rfl (.inl rfl) pe_int)
          (pss_one (ps_for PassesOwn.never rfl (pi_tup (pv 2)) (pg_name (i := 3) scSumL.nd rfl (.inl rfl))
            (pss_cons (ps_aug (i := 6) scSumL.nd rfl (.inl rfl) (pe_ix ix_tup (pv 0) (pv 3) (fun _ _ => rfl)) ip_add)
            (pss_one (ps_aug (i := 5) scSumL.nd rfl (.inl rfl) (pv 6) ip_add)))))))
      (pss_one (ps_ret (pv 5))))))))), ?_⟩
    refine ⟨_, rfl, p, ts, rfl, hp, h1, h2, hb, fun H1 sm1 => ?_⟩
    have hp1 := sm1 _ _ hp
    have hlp1 := sm1 _ _ hlp
    have la1 := la.keep (H' := H1) fun a xs e => sm1 _ _ e
    have hasl : as.length = L.length := la.1
    -- is_list, all isinstance
    refine ⟨_, rfl, lp, as.map V.ref, 1, 6, rfl, hlp1, by rw [List.length_map]; omega, by rw [List.length_map]; omega, true, rfl, iteF ?_⟩
    refine ⟨_, rfl, lp, rfl, ⟨_, SqT.of hlp1⟩, fun D nD => ?_⟩
    refine lc_it (walk_tup (xs := as.map V.ref)) (fun i H2 => Same H1 H2 ∧ H2 D = some (.lst ((List.replicate i true).map V.bl))) ⟨same_upd nD, upd_same⟩ (fun i H2 _ h => SqT.of (h.1 _ _ hlp1)) (fun i x H2 H3 hi hv y => ?_) (fun H2 hv => ?_)
    · obtain ⟨s2, e2⟩ := hv
      obtain ⟨rfl, ex⟩ := y
      obtain ⟨a, ea, rfl⟩ := getR ex
      obtain ⟨l, el, ha⟩ := la1.at ea
      rw [List.length_map] at hi
      refine ⟨rfl, ?_⟩
      refine ⟨_, rfl, _, _, _, _, _, rfl, .ty "tuple", .base (.tup (s2 _ _ ha)), kit_tup_tup, _, e2, ?_, same_at s2 nD, ?_⟩
      · rw [List.length_map, List.length_replicate]
        exact small1000 (by omega)
      · rw [upd_same, List.replicate_succ', List.map_append]
        rfl
    obtain ⟨s2, e2⟩ := hv
    refine ⟨D, List.replicate (as.map V.ref).length true, rfl, SqL.of e2, true, by rw [all_rep], iteF ?_⟩
    -- every
    have hlp2 := s2 _ _ hlp1
    have hp2 := s2 _ _ hp1
    have la2 := la1.keep (H' := H2) fun a xs e => s2 _ _ e
    have sm2 : Same H H2 := sm1.trans s2
    refine ⟨_, rfl, lp, rfl, ⟨_, SqT.of hlp2⟩, fun D2 nD2 => ?_⟩
    refine loop_w (walk_tup (xs := as.map V.ref)) (fun i H3 => Same H2 H3 ∧ H3 D2 = some (.lst (((L.take i).flatten).map jv))) ⟨same_upd nD2, upd_same⟩ (fun i H3 _ h => SqT.of (h.1 _ _ hlp2)) (fun i x H3 H4 hi hv y => ?_) (fun H3 hv => ?_)
    · obtain ⟨s3, e3⟩ := hv
      obtain ⟨rfl, ex⟩ := y
      obtain ⟨a, ea, rfl⟩ := getR ex
      obtain ⟨l, el, ha⟩ := la2.at ea
      refine ⟨rfl, ?_⟩
      refine ⟨_, rfl, a, rfl, ⟨_, SqT.of (s3 _ _ ha)⟩, ?_⟩
      have hfl : (L.take i).flatten.length + l.length ≤ 10 := by
        have q1 := take_flat el
        have q2 : ((L.take (i + 1)).flatten).Sublist L.flatten := by
          have : L.flatten = (L.take (i + 1)).flatten ++ (L.drop (i + 1)).flatten := by rw [← List.flatten_append, List.take_append_drop]
          rw [this]
          exact List.sublist_append_left _ _
        have q3 := q2.length_le
        rw [q1, List.length_append, hperm.length_eq, List.length_range] at q3
        omega
      refine loop_w (walk_tup (xs := l.map jv)) (fun j H4 => Same H2 H4 ∧ H4 D2 = some (.lst (((L.take i).flatten ++ l.take j).map jv))) ⟨s3, by rw [List.take_zero, List.append_nil]; exact e3⟩ (fun j H4 _ h => SqT.of (h.1 _ _ ha)) (fun j x H4 H5 hj hv y => ?_) (fun H4 hv => ?_)
      · obtain ⟨s4, e4⟩ := hv
        obtain ⟨rfl, ex⟩ := y
        obtain ⟨k, ek, rfl⟩ := getJ ex
        refine ⟨rfl, ?_⟩
        refine ⟨_, rfl, _, e4, ?_, same_at s4 nD2, ?_⟩
        · rw [List.length_map, List.length_append]
          have : (l.take j).length ≤ l.length := by rw [List.length_take]; omega
          exact small1000 (by omega)
        · rw [upd_same, List.take_add_one, ek]
          simp
      · rw [List.length_map, List.take_length, ← take_flat el] at hv
        exact hv
    obtain ⟨s3, e3⟩ := hv
    rw [List.length_map, hasl, List.take_length] at e3
    have hlp3 := s3 _ _ hlp2
    have hp3 := s3 _ _ hp2
    have la3 := la2.keep (H' := H3) fun a xs e => s3 _ _ e
    have sm3 : Same H H3 := sm2.trans s3
    have hfl : L.flatten.length = ts.length := by rw [hperm.length_eq, List.length_range]
    -- all in range
    refine ⟨_, rfl, D2, rfl, ⟨_, SqL.of e3⟩, fun D3 nD3 => ?_⟩
    refine lc_it (walk_list (xs := L.flatten.map jv)) (fun i H4 => Same H3 H4 ∧ H4 D3 = some (.lst ((List.replicate i true).map V.bl))) ⟨same_upd nD3, upd_same⟩ (fun i H4 _ h => SqL.of (h.1 _ _ e3)) (fun i x H4 H5 hi hv y => ?_) (fun H4 hv => ?_)
    · obtain ⟨s4, e4⟩ := hv
      obtain ⟨rfl, ex⟩ := y
      obtain ⟨k, ek, rfl⟩ := getJ ex
      rw [List.length_map] at hi
      have hk : k < ts.length := List.mem_range.mp (hperm.mem_iff.mp (List.mem_of_getElem? ek))
      refine ⟨rfl, ?_⟩
      refine ⟨_, rfl, _, rfl, p, ts.map V.int, rfl, .inr (SqT.of (s4 _ _ hp3)), _, _, rfl, rfl, k, 0, _, rfl, by omega, ?_, _, e4, ?_, same_at s4 nD3, ?_⟩
      · rw [List.length_map]
        omega
      · rw [List.length_map, List.length_replicate]
        exact small1000 (by omega)
      · rw [upd_same, List.replicate_succ', List.map_append]
        rfl
    obtain ⟨s4, e4⟩ := hv
    refine ⟨D3, List.replicate (L.flatten.map jv).length true, rfl, SqL.of e4, true, by rw [all_rep], iteF ?_⟩
    -- sorted(every) != list(range(..))
    have sm4 : Same H H4 := sm3.trans s4
    have e34 := s4 _ _ e3
    rw [map_jv] at e34
    refine ⟨_, rfl, D2, L.flatten.map ji, rfl, SqL.of e34, by rw [List.length_map]; omega, fun ns l hns hrs nl => ?_⟩
    have hnsr : ns = (List.range ts.length).map ji := rising_unique (hns.trans (hperm.map ji)) hrs (range_rising _)
    subst hnsr
    have s5 : Same H4 (upd H4 l (.lst (((List.range ts.length).map ji).map V.int))) := same_upd nl
    have e5 : (upd H4 l (.lst (((List.range ts.length).map ji).map V.int))) l = some (.lst (((List.range ts.length).map ji).map V.int)) := upd_same
    generalize upd H4 l (.lst (((List.range ts.length).map ji).map V.int)) = H5 at *
    have hp5 := s5 _ _ (s4 _ _ hp3)
    refine ⟨_, rfl, p, ts.map V.int, rfl, .inr (SqT.of hp5), ts.length, by rw [List.length_map], .of_le (by omega) (by omega) (by omega) (by omega), fun l2 nl2 => ?_⟩
    rw [rgV_jobs]
    have s6 : Same H5 (upd H5 l2 (.lst (((List.range ts.length).map ji).map V.int))) := same_upd nl2
    have e6 : (upd H5 l2 (.lst (((List.range ts.length).map ji).map V.int))) l2 = some (.lst (((List.range ts.length).map ji).map V.int)) := upd_same
    generalize upd H5 l2 (.lst (((List.range ts.length).map ji).map V.int)) = H6 at *
    refine ⟨.list (((List.range ts.length).map ji).map .int), .list (((List.range ts.length).map ji).map .int), .lst (SqL.of (s6 _ _ e5)) (dp_ints _), .lst (SqL.of e6) (dp_ints _), shaped_ints _, shaped_ints _, false, by rw [eqv_ints]; rfl, iteF ?_⟩
    -- the loops
    have sm6 : Same H H6 := sm4.trans (s5.trans s6)
    have hp6 := sm6 _ _ hp
    have hlp6 := sm6 _ _ hlp
    have la6 := la.keep (H' := H6) fun a xs e => sm6 _ _ e
    refine ⟨_, rfl, lp, rfl, ⟨_, SqT.of hlp6⟩, ?_⟩
    refine for_tup (xs := as.map V.ref) (fun i σ H7 => H7 = H6 ∧ ∃ x2 x3 x6, σ = [some (.ref p), some (.ref lp), x2, x3, some (.ref D2), some (.int (ends ts (L.take i))), x6]) ⟨rfl, none, none, none, rfl⟩ (fun i σ H7 _ h => by rw [h.1]; exact SqT.of hlp6) (fun i x σ H7 ex hv => ?_) (fun σ H7 hv => ?_)
    · obtain ⟨rfl, x2, x3, x6, rfl⟩ := hv
      obtain ⟨a, ea, rfl⟩ := getR ex
      obtain ⟨l, el, ha⟩ := la6.at ea
      refine ⟨_, rfl, a, rfl, ⟨_, SqT.of ha⟩, ?_⟩
      refine for_tup (xs := l.map jv) (fun j σ H8 => H8 = H7 ∧ ∃ x3, σ = [some (.ref p), some (.ref lp), some (.ref a), x3, some (.ref D2), some (.int (ends ts (L.take i) + cost ((l.map (tm ts)).take j))), some (.int ((l.map (tm ts)).take j).sum)])
        ⟨rfl, x3, ?_⟩ (fun j σ H8 _ h => by rw [h.1]; exact SqT.of ha) (fun j x σ H8 ex hv => ?_) (fun σ H8 hv => ?_)
      · show _ = [some (V.ref p), some (V.ref lp), some (V.ref a), x3, some (V.ref D2), some (V.int (ends ts (L.take i) + 0)), some (V.int 0)]
        rw [Int.add_zero]
        rfl
      · obtain ⟨rfl, x3, rfl⟩ := hv
        obtain ⟨k, ek, rfl⟩ := getJ ex
        have hk : k < ts.length := List.mem_range.mp (hperm.mem_iff.mp (List.mem_flatten.mpr ⟨l, List.mem_of_getElem? el, List.mem_of_getElem? ek⟩))
        have et : (l.map (tm ts))[j]? = some (tm ts k) := by rw [List.getElem?_map, ek]; rfl
        refine ⟨_, rfl, _, rfl, _, rfl, p, ts.map V.int, k, .int (tm ts k), rfl, rfl, SqT.of hp6, atI_nat (tm_at hk), _, _, rfl, rfl, ?_⟩
        refine ⟨_, rfl, _, rfl, _, _, rfl, rfl, rfl, some (jv k), ?_⟩
        rw [cost_take et, sum_take et]
        show [some (V.ref p), some (V.ref lp), some (V.ref a), some (jv k), some (V.ref D2), some (V.int (ends ts (L.take i) + cost ((l.map (tm ts)).take j) + (((l.map (tm ts)).take j).sum + tm ts k))), some (V.int (((l.map (tm ts)).take j).sum + tm ts k))] = _
        rw [Int.add_assoc]
      · obtain ⟨rfl, x3', rfl⟩ := hv
        have e1 : (l.map jv).length = (l.map (tm ts)).length := by rw [List.length_map, List.length_map]
        rw [e1, List.take_length, ← take_ends el]
        exact ⟨rfl, _, _, _, rfl⟩
    · obtain ⟨rfl, x2, x3, x6, rfl⟩ := hv
      rw [List.length_map, hasl, List.take_length]
      exact ⟨_, rfl, q H7 sm6⟩
end
end K19

/-! K19F: the law's helpers: _law_taken, _law_pick, _law_alike. -/
namespace K19
open PySem PySem.Spec PyProof.Rows L2
abbrev sTaken : Stmt := topS 22
abbrev sPick : Stmt := topS 23
abbrev sAlike : Stmt := topS 24
abbrev nTaken : List Str := ["_law_row", "_law_many", "_law_found", "_law_cell"]
abbrev nPick : List Str := ["_law_row", "_law_things"]
abbrev nAlike : List Str := ["_law_found", "_law_due"]
theorem scTaken : FnScope nTaken ["_law_row", "_law_many"] (defScope sTaken) := ⟨rfl, rfl, rfl, by decide +kernel, rfl, by decide +kernel, by decide +kernel⟩
theorem scPick : FnScope nPick ["_law_row", "_law_things"] (defScope sPick) := ⟨rfl, rfl, rfl, by decide +kernel, rfl, by decide +kernel, by decide +kernel⟩
theorem scAlike : FnScope nAlike ["_law_found", "_law_due"] (defScope sAlike) := ⟨rfl, rfl, rfl, by decide +kernel, rfl, by decide +kernel, by decide +kernel⟩
/-- all but what stands at row is as it was -/
def KeepB (row : Addr) (H H' : Hp) : Prop := ∀ a o, a ≠ row → H a = some o → H' a = some o
theorem KeepB.refl (row : Addr) (H : Hp) : KeepB row H H := fun _ _ _ h => h
theorem KeepB.trans {row : Addr} {H H1 H2 : Hp} (a : KeepB row H H1) (b : KeepB row H1 H2) : KeepB row H H2 := fun c o n h => b c o n (a c o n h)
theorem KeepB.upd {row : Addr} {H : Hp} {o : HO} : KeepB row H (L2.upd H row o) := fun a x n h => by rw [upd_ne n]; exact h
theorem KeepB.of {row : Addr} {H H' : Hp} (s : Same H H') : KeepB row H H' := fun a o _ h => s a o h
/-- .. tables of code objects set aside -/
def KeepN (row : Addr) (H H' : Hp) : Prop := ∀ a o, a ≠ row → (∀ ps, o ≠ .tbl ps) → H a = some o → H' a = some o
theorem KeepN.trans {row : Addr} {H H1 H2 : Hp} (a : KeepN row H H1) (b : KeepN row H1 H2) : KeepN row H H2 := fun c o n t h => b c o n t (a c o n t h)
theorem KeepB.n {row : Addr} {H H' : Hp} (k : KeepB row H H') : KeepN row H H' := fun a o n _ h => k a o n h
/-- the row of draws: the script, the place, the seed, the rest of a great number -/
structure RowOk (K : PySem.W.Frag) (row sc : Addr) (ns : List Int) (H : Hp) : Prop where
  at_ : ∃ i r g : Int, H row = some (.lst [.ref sc, .int i, .int r, .int g]) ∧ 0 ≤ i
  script : ∀ H', KeepN row H H' → SqL K H' sc (ns.map V.int)
theorem RowOk.put {K : PySem.W.Frag} {row sc : Addr} {ns : List Int} {H : Hp} (h : RowOk K row sc ns H) {i r g : Int} (hi : 0 ≤ i) : RowOk K row sc ns (L2.upd H row (.lst [.ref sc, .int i, .int r, .int g])) :=
  ⟨⟨i, r, g, upd_same, hi⟩, fun H' k => h.script H' (KeepB.upd.n.trans k)⟩
theorem RowOk.same {K : PySem.W.Frag} {row sc : Addr} {ns : List Int} {H H' : Hp} (h : RowOk K row sc ns H) (s : Same H H') : RowOk K row sc ns H' := by
  obtain ⟨i, r, g, e, hi⟩ := h.at_
  exact ⟨⟨i, r, g, s _ _ e, hi⟩, fun H2 k => h.script H2 ((KeepB.of s).n.trans k)⟩
def spTaken (K : PySem.W.Frag) : Sp := fun vs H Q _ => ∃ (row sc : Addr) (ns : List Int) (m : Int), vs = [.ref row, .int m] ∧ RowOk K row sc ns H ∧ 0 < m ∧ m < 1073741824 ∧
  ∀ (H' : Hp) (v : Int), KeepB row H H' → RowOk K row sc ns H' → 0 ≤ v → v < m → Q (.int v) H'
section
variable {P : Program} {w : World} {K : PySem.W.Frag} {mg : Str → Option Value} {base : Heap} {f : Addr} {fd : FuncData}
theorem ok_taken (F : FnP K "_law_taken" sTaken f fd) (mI : mg "int" = none) (mL : mg "len" = none) : FnOk P w K mg base CX0 1 f fd ["_law_row", "_law_many"] (spTaken K) := by
  refine F.ok scTaken (fun vs H Q E h => ?_) (fun cdv A outer s H vs Q E hr h => ?_)
  · obtain ⟨row, sc, ns, m, rfl, _⟩ := h
    rfl
  · obtain ⟨row, sc, ns, m, rfl, hR, h1, h2, q⟩ := h
    obtain ⟨i, r, g, e, hi⟩ := hR.at_
    refine ⟨_, PSs.nox (pss_cons (ps_if (pt_cmpR op_gt (pe_ix ix_list (pv 0) pe_int (fun _ _ => rfl)) pe_int (nomark _))
        (pss_cons (ps_set (i := 2) scTaken.nd rfl (.inl rfl) (pe_op op_mod (pe_callTy call_int1 (by rfl) mI boot_int (pa_cons (pe_ix ix_list (pv 0) pe_int (fun _ _ => rfl)) pa_nil)) (pv 1)))
        (pss_cons (ps_asg (pe_op op_fdiv (pe_ix ix_list (pv 0) pe_int (fun _ _ => rfl)) (pv 1)) (pg_sub (pv 0) pe_int set_list))
        (pss_one (ps_ret (pv 2))))) pss_nil)
      (pss_cons (ps_asg (pe_op op_add (pe_ix ix_list (pv 0) pe_int (fun _ _ => rfl)) pe_int) (pg_sub (pv 0) pe_int set_list))
      (pss_cons (ps_if (pt_cmpR op_gt (pe_ix ix_list (pv 0) pe_int (fun _ _ => rfl)) (pe_callB call_len_seq (by rfl) mL PySem.boot_len (pa_cons (pe_ix ix_list (pv 0) pe_int (fun _ _ => rfl)) pa_nil)) (nomark _))
        (pss_cons (ps_asg (pe_op op_mod (pe_callTy call_int1 (by rfl) mI boot_int (pa_cons (pe_op op_add (pe_op op_mul (pe_ix ix_list (pv 0) pe_int (fun _ _ => rfl)) pe_int) pe_int) pa_nil)) pe_int) (pg_sub (pv 0) pe_int set_list))
        (pss_one (ps_ret (pe_op op_mod (pe_callTy call_int1 (by rfl) mI boot_int (pa_cons (pe_op op_fdiv (pe_ix ix_list (pv 0) pe_int (fun _ _ => rfl)) pe_int) pa_nil)) (pv 1))))) pss_nil)
      (pss_cons (ps_set (i := 3) scTaken.nd rfl (.inl rfl) (pe_ix ix_list (pe_ix ix_list (pv 0) pe_int (fun _ _ => rfl)) (pe_op op_sub (pe_ix ix_list (pv 0) pe_int (fun _ _ => rfl)) pe_int) (fun _ _ => rfl)))
      (pss_cons (ps_asg (pe_op op_mod (pe_callTy call_int1 (by rfl) mI boot_int (pa_cons (pe_op op_add (pe_op op_add (pe_op op_mul (pe_ix ix_list (pv 0) pe_int (fun _ _ => rfl)) pe_int) (pv 3)) pe_int) pa_nil)) pe_int) (pg_sub (pv 0) pe_int set_list))
      (pss_cons (ps_if (pt_cmpR op_ge (pv 3) (pe_op op_pow pe_int pe_int) (nomark _))
        (pss_one (ps_asg (pe_op op_fdiv (pv 3) (pv 1)) (pg_sub (pv 0) pe_int set_list))) pss_nil)
      (pss_one (ps_ret (pe_op op_mod (pe_callTy call_int1 (by rfl) mI boot_int (pa_cons (pv 3) pa_nil)) (pv 1)))))))))), ?_⟩
    have bnd : ∀ x : Int, 0 ≤ x % m ∧ x % m < m := fun x => ⟨Int.emod_nonneg x (by omega), Int.emod_lt_of_pos x h1⟩
    refine ⟨_, rfl, row, _, 3, .int g, rfl, rfl, SqL.of e, rfl, g, 0, rfl, rfl, _, rfl, ite2 (fun _ => ?_) (fun _ => ?_)⟩
    · refine ⟨_, rfl, row, _, 3, .int g, rfl, rfl, SqL.of e, rfl, .inl ⟨g, rfl, _, rfl, g, m, rfl, rfl, h1, ?_⟩⟩
      refine ⟨_, rfl, row, _, 3, .int g, rfl, rfl, SqL.of e, rfl, _, rfl, g, m, rfl, rfl, ⟨h1, h2⟩, _, rfl, row, _, 3, 3, rfl, rfl, e, rfl, ?_⟩
      exact ⟨_, rfl, q _ _ KeepB.upd (hR.put hi) (bnd g).1 (bnd g).2⟩
    · refine ⟨_, rfl, row, _, 1, .int i, rfl, rfl, SqL.of e, rfl, i, 1, rfl, rfl, _, rfl, row, _, 1, 1, rfl, rfl, e, rfl, ?_⟩
      have e1 : (L2.upd H row (.lst [.ref sc, .int (i + 1), .int r, .int g])) row = some (.lst [.ref sc, .int (i + 1), .int r, .int g]) := upd_same
      have hR1 : RowOk K row sc ns (L2.upd H row (.lst [.ref sc, .int (i + 1), .int r, .int g])) := hR.put (by omega)
      have k1 : KeepB row H (L2.upd H row (.lst [.ref sc, .int (i + 1), .int r, .int g])) := KeepB.upd
      show tSeq _ _ _ _ (L2.upd H row (.lst [.ref sc, .int (i + 1), .int r, .int g]))
      generalize L2.upd H row (.lst [.ref sc, .int (i + 1), .int r, .int g]) = H1 at *
      refine ⟨_, rfl, row, _, 1, .int (i + 1), rfl, rfl, SqL.of e1, rfl, _, rfl, row, _, 0, .ref sc, rfl, rfl, SqL.of e1, rfl, sc, ns.map V.int, rfl, .inl (hR1.script _ (KeepB.refl _ _).n), _, _, rfl, rfl, _, rfl, ite2 (fun _ => ?_) (fun hc => ?_)⟩
      · refine ⟨_, rfl, row, _, 2, .int r, rfl, rfl, SqL.of e1, rfl, r, 48271, rfl, rfl, .inr ⟨by decide, by decide⟩, _, 11, rfl, rfl, .inl ⟨_, rfl, _, _, rfl, rfl, (by show (0 : Int) < 2147483647; decide), _, rfl, row, _, 2, 2, rfl, rfl, e1, rfl, ?_⟩⟩
        have e2 : (L2.upd H1 row (.lst [.ref sc, .int (i + 1), .int ((r * 48271 + 11) % 2147483647), .int g])) row = some (.lst [.ref sc, .int (i + 1), .int ((r * 48271 + 11) % 2147483647), .int g]) := upd_same
        refine ⟨_, rfl, row, _, 2, .int ((r * 48271 + 11) % 2147483647), rfl, rfl, SqL.of e2, rfl, _, 7, rfl, rfl, ⟨by decide, by decide⟩, .inl ⟨_, rfl, _, rfl, _, m, rfl, rfl, h1, ?_⟩⟩
        exact q _ _ (k1.trans KeepB.upd) (hR1.put (by omega)) (bnd _).1 (bnd _).2
      · have hlt : ¬ ((ns.map V.int).length : Int) < i + 1 := fun z => hc (decide_eq_true z)
        rw [List.length_map] at hlt
        have hi0 : i.toNat < ns.length := by omega
        have hx : atI (ns.map V.int) (i + 1 - 1) = some (.int (ns.getD i.toNat 0)) := by
          refine at_of (j := i.toNat) (by omega) ?_
          rw [List.getElem?_map, List.getElem?_eq_getElem hi0, List.getD_eq_getElem?_getD, List.getElem?_eq_getElem hi0]
          rfl
        generalize ns.getD i.toNat 0 = x at hx
        refine ⟨_, rfl, row, _, 0, .ref sc, rfl, rfl, SqL.of e1, rfl, _, rfl, row, _, 1, .int (i + 1), rfl, rfl, SqL.of e1, rfl, i + 1, 1, rfl, rfl, sc, ns.map V.int, _, .int x, rfl, rfl, hR1.script _ (KeepB.refl _ _).n, hx, ?_⟩
        refine ⟨_, rfl, row, _, 2, .int r, rfl, rfl, SqL.of e1, rfl, r, 48271, rfl, rfl, .inr ⟨by decide, by decide⟩, _, rfl, _, x, rfl, rfl, _, 11, rfl, rfl, .inl ⟨_, rfl, _, _, rfl, rfl, (by show (0 : Int) < 2147483647; decide), _, rfl, row, _, 2, 2, rfl, rfl, e1, rfl, ?_⟩⟩
        have e2 : (L2.upd H1 row (.lst [.ref sc, .int (i + 1), .int ((r * 48271 + x + 11) % 2147483647), .int g])) row = some (.lst [.ref sc, .int (i + 1), .int ((r * 48271 + x + 11) % 2147483647), .int g]) := upd_same
        have hR2 : RowOk K row sc ns (L2.upd H1 row (.lst [.ref sc, .int (i + 1), .int ((r * 48271 + x + 11) % 2147483647), .int g])) := hR1.put (by omega)
        have k2 : KeepB row H (L2.upd H1 row (.lst [.ref sc, .int (i + 1), .int ((r * 48271 + x + 11) % 2147483647), .int g])) := k1.trans KeepB.upd
        show tSeq _ _ _ _ (L2.upd H1 row (.lst [.ref sc, .int (i + 1), .int ((r * 48271 + x + 11) % 2147483647), .int g]))
        generalize L2.upd H1 row (.lst [.ref sc, .int (i + 1), .int ((r * 48271 + x + 11) % 2147483647), .int g]) = H2 at *
        refine ⟨_, rfl, 10, 18, rfl, rfl, ⟨by decide, by decide, by decide⟩, x, _, rfl, rfl, _, rfl, ite2 (fun _ => ?_) (fun _ => ?_)⟩
        · refine ⟨_, rfl, _, rfl, x, m, rfl, rfl, ⟨h1, h2⟩, _, rfl, row, _, 3, 3, rfl, rfl, e2, rfl, ?_⟩
          exact ⟨_, rfl, .inl ⟨x, rfl, _, rfl, x, m, rfl, rfl, h1, q _ _ (k2.trans KeepB.upd) (hR2.put (by omega)) (bnd _).1 (bnd _).2⟩⟩
        · exact ⟨_, rfl, .inl ⟨x, rfl, _, rfl, x, m, rfl, rfl, h1, q _ _ k2 hR2 (bnd _).1 (bnd _).2⟩⟩
/-! ### _law_pick -/
structure Tk (K : PySem.W.Frag) (mg : Str → Option Value) where
  f : Addr
  fd : FuncData
  F : FnP K "_law_taken" sTaken f fd
  g : mg "_law_taken" = some (.ref f)
  mI : mg "int" = none
  mL : mg "len" = none
theorem Tk.G (T : Tk K mg) : FnOk P w K mg base CX0 1 T.f T.fd ["_law_row", "_law_many"] (spTaken K) := ok_taken T.F T.mI T.mL
theorem Tk.b (T : Tk K mg) : Binds K T.fd ["_law_row", "_law_many"] [] := T.F.bindsN fun _ _ _ _ _ _ us hl => match us, hl with | [_, _], _ => rfl
def spPick (K : PySem.W.Frag) : Sp := fun vs H Q _ => ∃ (row sc : Addr) (ns : List Int) (tp : Addr) (xs : List V), vs = [.ref row, .ref tp] ∧ RowOk K row sc ns H ∧ H tp = some (.lst xs) ∧ tp ≠ row ∧ 0 < xs.length ∧ xs.length ≤ 1000 ∧
  ∀ (H' : Hp) (x : V), KeepB row H H' → RowOk K row sc ns H' → x ∈ xs → Q x H'
theorem ok_pick (T : Tk K mg) (F : FnP K "_law_pick" sPick f fd) : FnOk P w K mg base CX0 2 f fd ["_law_row", "_law_things"] (spPick K) := by
  refine F.ok scPick (fun vs H Q E h => ?_) (fun cdv A outer s H vs Q E hr h => ?_)
  · obtain ⟨row, sc, ns, tp, xs, rfl, _⟩ := h
    rfl
  · obtain ⟨row, sc, ns, tp, xs, rfl, hR, hx, hne, h1, h2, q⟩ := h
    refine ⟨_, PSs.nox (pss_one (ps_ret (pe_ix ix_list (pv 1) (pe_call T.G hr (by rfl) T.g T.F.kp T.b .nil pass0 (pa_cons (pv 0) (pa_cons (pe_callB call_len_seq (by rfl) T.mL PySem.boot_len (pa_cons (pv 1) pa_nil)) pa_nil))) (fun _ _ => rfl)))), ?_⟩
    refine ⟨_, rfl, _, rfl, _, rfl, tp, xs, rfl, .inl (SqL.of hx), row, sc, ns, xs.length, rfl, hR, by omega, by omega, fun H' v k1 hR1 hv1 hv2 => ?_⟩
    have hx1 := k1 _ _ hne hx
    have hlt : v.toNat < xs.length := by omega
    refine ⟨tp, xs, v, xs[v.toNat], rfl, rfl, SqL.of hx1, at_of (j := v.toNat) (by omega) (List.getElem?_eq_getElem hlt), ?_⟩
    exact q H' _ k1 hR1 (List.getElem_mem hlt)
/-! ### _law_alike, of two equal ints -/
theorem kit_int_str {K : PySem.W.Frag} : PySem.W.kitOne K (.type "int") (.type "str") = some false := kit_ty (by decide +kernel)
theorem kit_int_tl {K : PySem.W.Frag} : PySem.W.kitAny K (.type "int") [.type "tuple", .type "list"] = some false :=
  kitAny_cons (kit_ty (by decide +kernel) : PySem.W.kitOne K (.type "int") (.type "tuple") = some false) (fun _ => kitAny_cons (kit_ty (by decide +kernel) : PySem.W.kitOne K (.type "int") (.type "list") = some false) (fun _ => kitAny_nil) (fun z => by cases z)) (fun z => by cases z)
def spAlike : Sp := fun vs H Q _ => ∃ a : Int, vs = [.int a, .int a] ∧ ∀ H', Same H H' → Q (.bl true) H'
theorem ok_alike (F : FnP K "_law_alike" sAlike f fd) (mi : mg "isinstance" = none) (mI : mg "int" = none) (mB : mg "bool" = none) (mT : mg "tuple" = none) (mLi : mg "list" = none) (mS : mg "str" = none) : FnOk P w K mg base CX0 1 f fd ["_law_found", "_law_due"] spAlike := by
  refine F.ok scAlike (fun vs H Q E h => ?_) (fun cdv A outer s H vs Q E hr h => ?_)
  · obtain ⟨a, rfl, _⟩ := h
    rfl
  · obtain ⟨a, rfl, q⟩ := h
    refine ⟨_, PSs.nox (pss_cons (ps_if (pt_val (pe_callB call_isiT (by rfl) mi boot_isi (pa_cons (pv 1) (pa_cons (pe_tup (pa_cons (pe_bltn (v := .ty "tuple") (by rfl) mT boot_tuple rfl) (pa_cons (pe_bltn (v := .ty "list") (by rfl) mLi boot_list rfl) pa_nil))) pa_nil)))) pss_never pss_nil)
      (pss_cons (ps_if (PW.pt (pw_or (pt_cmp (pc_isN (pv 1)) rfl) (pw_or1 (pt_val (pe_callB call_isi (by rfl) mi boot_isi (pa_cons (pv 1) (pa_cons (pe_bltn (v := .ty "str") (by rfl) mS (by decide +kernel) rfl) pa_nil))))))) pss_never pss_nil)
      (pss_one (ps_ret (pe_and (pe_callB call_isi (by rfl) mi boot_isi (pa_cons (pv 0) (pa_cons (pe_bltn (v := .ty "int") (by rfl) mI boot_int rfl) pa_nil)))
        (pe_and (pe_cmpR op_eq (pe_callB call_isi (by rfl) mi boot_isi (pa_cons (pv 0) (pa_cons (pe_bltn (v := .ty "bool") (by rfl) mB (by decide +kernel) rfl) pa_nil))) (pe_callB call_isi (by rfl) mi boot_isi (pa_cons (pv 1) (pa_cons (pe_bltn (v := .ty "bool") (by rfl) mB (by decide +kernel) rfl) pa_nil))) (nomark _))
        (pe_one (pe_cmpR op_eq (pv 0) (pv 1) (nomark _))))))))), ?_⟩
    refine ⟨_, rfl, by show 2 ≤ sizeLine; decide, fun t nt => ?_⟩
    have s1 : Same H (L2.upd H t (.tup [.ty "tuple", .ty "list"])) := same_upd nt
    refine ⟨.int a, t, [.ty "tuple", .ty "list"], .type "int", [.type "tuple", .type "list"], false, rfl, upd_same, .cons (.ty _) (.cons (.ty _) .nil), .base (.int a), kit_int_tl, false, rfl, iteF ?_⟩
    refine ⟨_, rfl, false, rfl, iteF ?_⟩
    refine ⟨_, rfl, _, _, _, _, _, rfl, .ty "str", .base (.int a), kit_int_str, false, rfl, iteF ?_⟩
    refine ⟨_, rfl, _, _, _, _, _, rfl, .ty "int", .base (.int a), kit_int_int, true, rfl, iteT ?_⟩
    refine ⟨_, rfl, _, _, _, _, _, rfl, .ty "bool", .base (.int a), kit_int_bool, _, rfl, _, _, _, _, _, rfl, .ty "bool", .base (.int a), kit_int_bool, rfl, true, rfl, iteT ?_⟩
    refine ⟨_, rfl, _, rfl, rfl, ?_⟩
    exact q_t (Q := Q) rfl (q _ s1)
/-! ### sum of a tuple -/
def rSumT (K : PySem.W.Frag) : List V → Hp → VK → Prop := fun vs H Q => ∃ (a : Addr) (ns : List Int), vs = [V.ref a] ∧ SqT K H a (ns.map V.int) ∧ Q (.int ns.sum) H
theorem cr_sumT {X : Cx} (hc : X.calm = true) : CallR X (.builtin "sum") (rSumT X.K) := by
  intro pins s σ H vs us Q I r h
  obtain ⟨a, ns, rfl, hs, q⟩ := h
  obtain ⟨its, rv, ht, _⟩ := I.tuple hs
  rw [Vals.ref1 r]
  have hi := rv.ints
  obtain ⟨xs, e⟩ := hi.allInts.items
  have hn : numsOf (intItems xs).toList = ns := by rw [← e]; exact hi.numsOf
  rw [nums_intItems] at hn
  have ht' : s.heap.IsTuple a its.toArray := ht
  rw [e] at ht'
  refine PySem.W.ktm_sumG (I.ok.hd hc) ht' fun h' tk t' hk => ?_
  rw [preSum_eq, List.take_of_length_le (by simp), hn]
  exact ⟨.int _, H, I.kept hk, ⟨_, rfl⟩, q⟩
end
end K19

/-! K19J: _law_jobs, _law_order. -/
namespace K19
open PySem PySem.Spec PyProof.Rows L2
abbrev sJobs : Stmt := topS 25
abbrev sOrder : Stmt := topS 26
abbrev nJobs : List Str := ["_law_row", "_law_most", "_law_time", "_law_many", "_law_top", "_law_wide", "_law_times", "_law_weights", "_law_last", "_law_dues", "_law_at"]
abbrev nOrder : List Str := ["_law_row", "_law_many", "_law_left", "_law_found", "_law_turn"]
theorem scJobs : FnScope nJobs ["_law_row", "_law_most", "_law_time"] (defScope sJobs) := ⟨rfl, rfl, rfl, by decide +kernel, rfl, by decide +kernel, by decide +kernel⟩
theorem scOrder : FnScope nOrder ["_law_row", "_law_many"] (defScope sOrder) := ⟨rfl, rfl, rfl, by decide +kernel, rfl, by decide +kernel, by decide +kernel⟩
def RowAt (row sc : Addr) (H : Hp) : Prop := ∃ i r g : Int, H row = some (.lst [.ref sc, .int i, .int r, .int g]) ∧ 0 ≤ i
theorem RowOk.later {K : PySem.W.Frag} {row sc : Addr} {ns : List Int} {H H' : Hp} (h : RowOk K row sc ns H) (k : KeepB row H H') (r : RowAt row sc H') : RowOk K row sc ns H' := ⟨r, fun H2 k2 => h.script H2 (k.n.trans k2)⟩
theorem RowAt.upd {row sc : Addr} {H : Hp} {D : Addr} {o : HO} (r : RowAt row sc H) (n : row ≠ D) : RowAt row sc (L2.upd H D o) := by
  obtain ⟨i, a, g, e, hi⟩ := r
  exact ⟨i, a, g, by rw [upd_ne n]; exact e, hi⟩
theorem RowOk.ne {K : PySem.W.Frag} {row sc : Addr} {ns : List Int} {H : Hp} (h : RowOk K row sc ns H) {D : Addr} (n : H D = none) : row ≠ D := by
  obtain ⟨i, a, g, e, hi⟩ := h.at_
  exact ne_of_none e n
theorem KeepB.at_ {row : Addr} {H H' : Hp} {D : Addr} {o : HO} (k : KeepB row H H') (n : H D = none) : KeepB row H (L2.upd H' D o) := fun a x hn e => by
  rw [upd_ne (ne_of_none e n)]
  exact k a x hn e
/-- a comprehension of draws -/
theorem lc_draws {K : PySem.W.Frag} {row sc : Addr} {ns : List Int} {n : Nat} {H1 : Hp} {D : Addr} {te : TE} {iv : Nat} {σ : L2.St} {lo hi : Int} {Qd : Hp → Prop} (hn : n ≤ 1000) (hR : RowOk K row sc ns H1) (nD : H1 D = none)
    (hw : ∀ v : V, wipe ((wipe σ [iv]).set iv (some v)) [iv] = wipe σ [iv])
    (hte : ∀ (v : V) (H : Hp) (Q : VK), RowOk K row sc ns H → KeepB row H1 H → (∀ (H' : Hp) (x : Int), KeepB row H H' → RowOk K row sc ns H' → lo ≤ x → x ≤ hi → Q (.int x) H') → te ((wipe σ [iv]).set iv (some v)) H Q)
    (hd : ∀ (H' : Hp) (vs : List Int), KeepB row H1 H' → RowOk K row sc ns H' → H' D = some (.lst (vs.map V.int)) → vs.length = n → (∀ x ∈ vs, lo ≤ x ∧ x ≤ hi) → Qd H') :
    ∃ W : Nat → Nat → Hp → Prop, (∃ m, W 0 m (L2.upd H1 D (.lst []))) ∧ ∀ i m H, W i m H →
      ((Itr 0 n).stop i H ∧ Qd H) ∨ ((Itr 0 n).go i H ∧ ∃ Nx : Hp → Prop, (∀ H', Nx H' → ∃ m', m' < m ∧ W (i + 1) m' H') ∧ ∀ x H', (Itr 0 n).yld i H x H' → gName iv x (wipe σ [iv]) H' fun σ2 H2 => wipe σ2 [iv] = wipe σ [iv] ∧ tYes σ2 H2 fun b H3 =>
        if b = true then te σ2 H3 fun y H4 => ∃ acc, H4 D = some (.lst acc) ∧ acc.length < sizeLine ∧ Nx (L2.upd H4 D (.lst (acc ++ [y]))) else Nx H3) := by
  have nr := hR.ne nD
  refine lc_range (fun i H => KeepB row H1 H ∧ RowAt row sc H ∧ ∃ vs : List Int, H D = some (.lst (vs.map V.int)) ∧ vs.length = i ∧ ∀ x ∈ vs, lo ≤ x ∧ x ≤ hi) ⟨(KeepB.refl row H1).at_ nD, RowAt.upd hR.at_ nr, [], upd_same, rfl, by simp⟩ (fun i H hi hv => ?_) (fun H hv => ?_)
  · obtain ⟨k, r, vs, e, hl, hb⟩ := hv
    refine ⟨hw _, ?_⟩
    refine hte _ _ _ (hR.later k r) k fun H' x k' r' h1 h2 => ?_
    have e' := k' _ _ nr.symm e
    refine ⟨_, e', ?_, (k.trans k').at_ nD, RowAt.upd r'.at_ nr, vs ++ [x], ?_, by rw [List.length_append, hl]; rfl, fun y hy => ?_⟩
    · rw [List.length_map, hl]
      exact small1000 (by omega)
    · rw [upd_same, List.map_append]
      rfl
    · rcases List.mem_append.mp hy with z | z
      · exact hb y z
      · rw [List.mem_singleton.mp z]
        exact ⟨h1, h2⟩
  · obtain ⟨k, r, vs, e, hl, hb⟩ := hv
    exact hd H vs k (hR.later k r) e hl hb
theorem sum_bounds : ∀ {ts : List Int}, (∀ x ∈ ts, 1 ≤ x ∧ x ≤ 60) → 0 ≤ ts.sum ∧ ts.sum ≤ 60 * (ts.length : Int)
  | [], _ => ⟨by simp, by simp⟩
  | t :: ts, h => by
    have h1 := h t List.mem_cons_self
    have h2 := sum_bounds (ts := ts) fun x hx => h x (List.mem_cons_of_mem _ hx)
    simp only [List.sum_cons, List.length_cons]
    omega
def spJobs (K : PySem.W.Frag) : Sp := fun vs H Q _ => ∃ (row sc : Addr) (ns : List Int), vs = [.ref row, .int 5, .int 9] ∧ RowOk K row sc ns H ∧
  ∀ (H' : Hp) (r tt a2 a3 : Addr) (ts : List Int), KeepB row H H' → RowOk K row sc ns H' → H' r = some (.tup [.ref tt, .ref a2, .ref a3]) → H' tt = some (.tup (ts.map V.int)) → 1 ≤ ts.length → ts.length ≤ 5 → (∀ x ∈ ts, 1 ≤ x ∧ x ≤ 60) → Q (.ref r) H'
section
variable {P : Program} {w : World} {K : PySem.W.Frag} {mg : Str → Option Value} {base : Heap} {f : Addr} {fd : FuncData}
structure Tk2 (K : PySem.W.Frag) (mg : Str → Option Value) extends Tk K mg where
  f2 : Addr
  fd2 : FuncData
  F2 : FnP K "_law_pick" sPick f2 fd2
  g2 : mg "_law_pick" = some (.ref f2)
  mR : mg "range" = none
  mT : mg "tuple" = none
  mLi : mg "list" = none
  mU : mg "sum" = none
theorem Tk2.G2 (T : Tk2 K mg) : FnOk P w K mg base CX0 2 T.f2 T.fd2 ["_law_row", "_law_things"] (spPick K) := ok_pick T.toTk T.F2
theorem Tk2.b2 (T : Tk2 K mg) : Binds K T.fd2 ["_law_row", "_law_things"] [] := T.F2.bindsN fun _ _ _ _ _ _ us hl => match us, hl with | [_, _], _ => rfl
set_option maxHeartbeats 1000000 in
theorem ok_jobs (T : Tk2 K mg) (F : FnP K "_law_jobs" sJobs f fd) : FnOk P w K mg base CX0 3 f fd ["_law_row", "_law_most", "_law_time"] (spJobs K) := by
  refine F.ok scJobs (fun vs H Q E h => ?_) (fun cdv A outer s H vs Q E hr h => ?_)
  · obtain ⟨row, sc, ns, rfl, _⟩ := h
    rfl
  · obtain ⟨row, sc, ns, rfl, hR, q⟩ := h
    refine ⟨_, PSs.nox (pss_cons (ps_asg (pe_tup (pa_cons (pe_op op_add pe_int (pe_call T.G (hr.mono (by decide)) (by rfl) T.g T.F.kp T.b .nil pass0 (pa_cons (pv 0) (pa_cons (pv 1) pa_nil))))
          (pa_cons (pe_call T.G2 hr (by rfl) T.g2 T.F2.kp T.b2 .nil pass0 (pa_cons (pv 0) (pa_cons (pe_lst (pa_cons pe_int (pa_cons (pv 2) pa_nil))) pa_nil)))
          (pa_cons (pe_call T.G2 hr (by rfl) T.g2 T.F2.kp T.b2 .nil pass0 (pa_cons (pv 0) (pa_cons (pe_lst (pa_cons pe_int (pa_cons pe_int (pa_cons pe_int pa_nil)))) pa_nil))) pa_nil))))
        (pg_tup rfl (pgs_cons (pg_name (i := 3) scJobs.nd rfl (.inl rfl)) (pgs_cons (pg_name (i := 4) scJobs.nd rfl (.inr rfl)) (pgs_cons (pg_name (i := 5) scJobs.nd rfl (.inr rfl)) pgs_nil)))))
      (pss_cons (ps_set (i := 6) scJobs.nd rfl (.inl rfl) (pe_callTy (cTup K) (by rfl) T.mT boot_tuple (pa_cons
          (pe_lc (own := [("_law_at", 10)]) (g := gName 10) (tt := tYes) rfl scJobs.nd (pi_range1 (by rfl) T.mR (pa_cons (pv 3) pa_nil)) (blkOk_by (N := nJobs) (sc := defScope sJobs) (by decide +kernel))
            (fun _ _ _ _ _ => pg_name (i := 10) scJobs.nd rfl (.inl rfl)) (fun _ _ _ _ _ => pts_nil)
            (fun _ _ _ _ _ => pe_op op_add pe_int (pe_call T.G (hr.mono (by decide)) (by rfl) T.g T.F.kp T.b .nil pass0 (pa_cons (pv 0) (pa_cons (pv 4) pa_nil))))) pa_nil)))
      (pss_cons (ps_set (i := 7) scJobs.nd rfl (.inl rfl) (pe_callTy (cTup K) (by rfl) T.mT boot_tuple (pa_cons
          (pe_lc (own := [("_law_at", 10)]) (g := gName 10) (tt := tYes) rfl scJobs.nd (pi_range1 (by rfl) T.mR (pa_cons (pv 3) pa_nil)) (blkOk_by (N := nJobs) (sc := defScope sJobs) (by decide +kernel))
            (fun _ _ _ _ _ => pg_name (i := 10) scJobs.nd rfl (.inl rfl)) (fun _ _ _ _ _ => pts_nil)
            (fun _ _ _ _ _ => pe_call T.G (hr.mono (by decide)) (by rfl) T.g T.F.kp T.b .nil pass0 (pa_cons (pv 0) (pa_cons (pe_op op_add (pv 5) pe_int) pa_nil)))) pa_nil)))
      (pss_cons (ps_set (i := 8) scJobs.nd rfl (.inr rfl) (pe_op op_add (pe_callB (cr_sumT rfl) (by rfl) T.mU boot_sum (pa_cons (pv 6) pa_nil)) pe_int))
      (pss_cons (ps_set (i := 9) scJobs.nd rfl (.inl rfl) (pe_callTy (cTup K) (by rfl) T.mT boot_tuple (pa_cons
          (pe_lc (own := [("_law_at", 10)]) (g := gName 10) (tt := tYes) rfl scJobs.nd (pi_range1 (by rfl) T.mR (pa_cons (pv 3) pa_nil)) (blkOk_by (N := nJobs) (sc := defScope sJobs) (by decide +kernel))
            (fun _ _ _ _ _ => pg_name (i := 10) scJobs.nd rfl (.inl rfl)) (fun _ _ _ _ _ => pts_nil)
            (fun _ _ _ _ _ => pe_call T.G (hr.mono (by decide)) (by rfl) T.g T.F.kp T.b .nil pass0 (pa_cons (pv 0) (pa_cons (pv 8) pa_nil)))) pa_nil)))
      (pss_one (ps_ret (pe_tup (pa_cons (pv 6) (pa_cons (pv 7) (pa_cons (pv 9) pa_nil))))))))))), ?_⟩
    -- many
    refine ⟨_, rfl, _, rfl, row, sc, ns, 5, rfl, hR, by decide, by decide, fun H1 v1 k1 r1 hv1 hv1' => ?_⟩
    refine ⟨1, v1, rfl, rfl, ?_⟩
    -- top
    refine ⟨_, rfl, _, rfl, by show 2 ≤ sizeLine; decide, fun l1 nl1 => ?_⟩
    have nr1 := r1.ne nl1
    refine ⟨row, sc, ns, l1, [.int 2, .int 9], rfl, r1.same (same_upd nl1), upd_same, nr1.symm, by decide, by decide, fun H2 x2 k2 r2 hx2 => ?_⟩
    have k12 : KeepB row H H2 := k1.trans ((KeepB.of (same_upd nl1)).trans k2)
    obtain ⟨t2, rfl, ht2⟩ : ∃ t : Int, x2 = .int t ∧ 2 ≤ t ∧ t ≤ 9 := by
      have z : x2 = .int 2 ∨ x2 = .int 9 := by simpa using hx2
      rcases z with z | z
      · exact ⟨2, z, by decide, by decide⟩
      · exact ⟨9, z, by decide, by decide⟩
    -- wide
    refine ⟨_, rfl, by show 3 ≤ sizeLine; decide, fun l2 nl2 => ?_⟩
    have nr2 := r2.ne nl2
    refine ⟨row, sc, ns, l2, [.int 1, .int 3, .int 9], rfl, r2.same (same_upd nl2), upd_same, nr2.symm, by decide, by decide, fun H3 x3 k3 r3 hx3 => ?_⟩
    have k13 : KeepB row H H3 := k12.trans ((KeepB.of (same_upd nl2)).trans k3)
    obtain ⟨t3, rfl, ht3⟩ : ∃ t : Int, x3 = .int t ∧ 1 ≤ t ∧ t ≤ 9 := by
      have z : x3 = .int 1 ∨ x3 = .int 3 ∨ x3 = .int 9 := by simpa using hx3
      rcases z with z | z | z
      · exact ⟨1, z, by decide, by decide⟩
      · exact ⟨3, z, by decide, by decide⟩
      · exact ⟨9, z, by decide, by decide⟩
    refine ⟨by show 3 ≤ sizeLine; decide, fun tp ntp => ?_⟩
    have s4 : Same H3 (L2.upd H3 tp (.tup [.int (1 + v1), .int t2, .int t3])) := same_upd ntp
    have e4 : (L2.upd H3 tp (.tup [.int (1 + v1), .int t2, .int t3])) tp = some (.tup [.int (1 + v1), .int t2, .int t3]) := upd_same
    have r4 := r3.same s4
    have k14 : KeepB row H (L2.upd H3 tp (.tup [.int (1 + v1), .int t2, .int t3])) := k13.trans (KeepB.of s4)
    generalize L2.upd H3 tp (.tup [.int (1 + v1), .int t2, .int t3]) = H4 at *
    refine ⟨tp, _, rfl, SqT.of e4, rfl, _, _, rfl, _, _, rfl, _, _, rfl, rfl, ?_⟩
    -- times
    refine ⟨_, rfl, 1 + v1, rfl, by omega, by omega, fun D nD => ?_⟩
    refine lc_draws (lo := 1) (hi := 60) (by omega) r4 nD (fun _ => rfl) (fun v H5 Q5 r5 k5 hq => ?_) (fun H5 ts k5 r5 e5 hl5 hb5 => ?_)
    · refine ⟨_, rfl, _, rfl, row, sc, ns, t2, rfl, r5, by omega, by omega, fun H6 x k6 r6 hx hx' => ⟨1, x, rfl, rfl, hq H6 _ k6 r6 (by omega) (by omega)⟩⟩
    have hl5' : 1 ≤ ts.length ∧ ts.length ≤ 5 := by omega
    refine ⟨D, _, rfl, SqL.of e5, fun tt ntt => ?_⟩
    have s6 : Same H5 (L2.upd H5 tt (.tup (ts.map V.int))) := same_upd ntt
    have e6 : (L2.upd H5 tt (.tup (ts.map V.int))) tt = some (.tup (ts.map V.int)) := upd_same
    have r6 := r5.same s6
    have nt : tt ≠ row := (r5.ne ntt).symm
    have k16 : KeepB row H (L2.upd H5 tt (.tup (ts.map V.int))) := (k14.trans k5).trans (KeepB.of s6)
    show tSeq _ _ _ _ (L2.upd H5 tt (.tup (ts.map V.int)))
    generalize L2.upd H5 tt (.tup (ts.map V.int)) = H6 at *
    -- weights
    refine ⟨_, rfl, 1 + v1, rfl, by omega, by omega, fun D2 nD2 => ?_⟩
    refine lc_draws (lo := 0) (hi := 60) (by omega) r6 nD2 (fun _ => rfl) (fun v H7 Q7 r7 k7 hq => ?_) (fun H7 ws k7 r7 e7 hl7 hb7 => ?_)
    · refine ⟨_, rfl, _, rfl, _, _, rfl, rfl, row, sc, ns, t3 + 1, rfl, r7, by omega, by omega, fun H8 x k8 r8 hx hx' => hq H8 _ k8 r8 (by omega) (by omega)⟩
    refine ⟨D2, _, rfl, SqL.of e7, fun a2 na2 => ?_⟩
    have s8 : Same H7 (L2.upd H7 a2 (.tup (ws.map V.int))) := same_upd na2
    have r8 := r7.same s8
    have k18 : KeepB row H6 (L2.upd H7 a2 (.tup (ws.map V.int))) := k7.trans (KeepB.of s8)
    show tSeq _ _ _ _ (L2.upd H7 a2 (.tup (ws.map V.int)))
    generalize L2.upd H7 a2 (.tup (ws.map V.int)) = H8 at *
    -- last
    have e8 := k18 _ _ nt e6
    refine ⟨_, rfl, tt, ts, rfl, SqT.of e8, ts.sum, 2, rfl, rfl, ?_⟩
    have hsum := sum_bounds hb5
    -- dues
    refine ⟨_, rfl, 1 + v1, rfl, by omega, by omega, fun D3 nD3 => ?_⟩
    refine lc_draws (lo := 0) (hi := 1000) (by omega) r8 nD3 (fun _ => rfl) (fun v H9 Q9 r9 k9 hq => ?_) (fun H9 ds k9 r9 e9 hl9 hb9 => ?_)
    · refine ⟨_, rfl, _, rfl, row, sc, ns, ts.sum + 2, rfl, r9, by omega, by omega, fun H10 x k10 r10 hx hx' => hq H10 _ k10 r10 (by omega) (by omega)⟩
    refine ⟨D3, _, rfl, SqL.of e9, fun a3 na3 => ?_⟩
    have s10 : Same H9 (L2.upd H9 a3 (.tup (ds.map V.int))) := same_upd na3
    have r10 := r9.same s10
    have k110 : KeepB row H8 (L2.upd H9 a3 (.tup (ds.map V.int))) := k9.trans (KeepB.of s10)
    generalize L2.upd H9 a3 (.tup (ds.map V.int)) = H10 at *
    refine ⟨_, rfl, _, rfl, _, rfl, by show 3 ≤ sizeLine; decide, fun r nr => ?_⟩
    have e10 := k110 _ _ nt e8
    exact q _ r tt a2 a3 ts ((k16.trans k18).trans (k110.trans (KeepB.of (same_upd nr)))) (r10.same (same_upd nr)) upd_same (same_upd nr _ _ e10) hl5'.1 hl5'.2 hb5
/-! ### _law_order -/
theorem erase_map {α β : Type} (g : α → β) : ∀ (xs : List α) (k : Nat), (xs.map g).eraseIdx k = (xs.eraseIdx k).map g
  | [], _ => rfl
  | _ :: _, 0 => rfl
  | x :: xs, k + 1 => by
    show g x :: (xs.map g).eraseIdx k = g x :: (xs.eraseIdx k).map g
    rw [erase_map g xs k]
def spOrder (K : PySem.W.Frag) : Sp := fun vs H Q _ => ∃ (row sc : Addr) (ns : List Int) (n : Nat), vs = [.ref row, .int (n : Nat)] ∧ RowOk K row sc ns H ∧ n ≤ 100 ∧
  ∀ (H' : Hp) (r : Addr) (js : List Nat), KeepB row H H' → RowOk K row sc ns H' → js.Perm (List.range n) → H' r = some (.tup (js.map jv)) → Q (.ref r) H'
theorem ok_order (T : Tk2 K mg) (F : FnP K "_law_order" sOrder f fd) : FnOk P w K mg base CX0 2 f fd ["_law_row", "_law_many"] (spOrder K) := by
  refine F.ok scOrder (fun vs H Q E h => ?_) (fun cdv A outer s H vs Q E hr h => ?_)
  · obtain ⟨row, sc, ns, n, rfl, _⟩ := h
    rfl
  · obtain ⟨row, sc, ns, n, rfl, hR, hn, q⟩ := h
    refine ⟨_, PSs.nox (pss_cons (ps_par (i := 2) (j := 3) rfl scOrder.nd rfl rfl (by decide) rfl rfl (pa_cons (pe_listRg rfl (by rfl) T.mLi (prg_1 (by rfl) T.mR (pv 1))) (pa_cons (pe_lst pa_nil) pa_nil)) (by rfl))
      (pss_cons (ps_for PassesOwn.never rfl (pi_range1 (by rfl) T.mR (pa_cons (pv 1) pa_nil)) (pg_name (i := 4) scOrder.nd rfl (.inl rfl))
        (pss_one (ps_expr (pe_bm PySem.F.plainAttrs_list PySem.F.slot_list_append PySem.F.type_list_append mt_append (pv 3)
          (pa_cons (pe_bm PySem.F.plainAttrs_list PySem.F.slot_list_pop PySem.F.type_list_pop mt_popAt (pv 2)
            (pa_cons (pe_call T.G hr (by rfl) T.g T.F.kp T.b .nil pass0 (pa_cons (pv 0) (pa_cons (pe_callB call_len_seq (by rfl) T.mL PySem.boot_len (pa_cons (pv 2) pa_nil)) pa_nil))) pa_nil)) pa_nil)))))
      (pss_one (ps_ret (pe_callTy call_tuple_of (by rfl) T.mT boot_tuple (pa_cons (pv 3) pa_nil)))))), ?_⟩
    refine ⟨_, rfl, n, rfl, .of_le (by omega) (by omega) (by omega) (by omega), fun lo nlo => ?_⟩
    rw [rgV_jobs, ← map_jv]
    have s1 : Same H (L2.upd H lo (.lst ((List.range n).map jv))) := same_upd nlo
    have e1 : (L2.upd H lo (.lst ((List.range n).map jv))) lo = some (.lst ((List.range n).map jv)) := upd_same
    have r1 := hR.same s1
    have n1 := hR.ne nlo
    generalize L2.upd H lo (.lst ((List.range n).map jv)) = H1 at *
    refine ⟨Nat.zero_le _, fun fo nfo => ?_⟩
    have n2 := r1.ne nfo
    have n3 : lo ≠ fo := ne_of_none e1 nfo
    have nfoH : H fo = none := s1.free nfo
    refine ⟨_, _, rfl, ?_⟩
    refine ⟨_, rfl, (n : Nat), rfl, by omega, by omega, ?_⟩
    have en : ((n : Nat) : Int).toNat = n := by omega
    rw [en]
    refine for_range (fun i σ H2 => KeepB row H H2 ∧ RowAt row sc H2 ∧ ∃ (left found : List Nat) (x4 : Option V), σ = [some (.ref row), some (.int (n : Nat)), some (.ref lo), some (.ref fo), x4] ∧ H2 lo = some (.lst (left.map jv)) ∧ H2 fo = some (.lst (found.map jv)) ∧ (found ++ left).Perm (List.range n) ∧ left.length + i = n ∧ found.length = i)
      ⟨(KeepB.of s1).at_ nfoH, RowAt.upd r1.at_ n2, List.range n, [], none, rfl, by rw [upd_ne n3]; exact e1, upd_same, List.Perm.refl _, by rw [List.length_range]; rfl, rfl⟩ (fun i σ H2 hi hv => ?_) (fun σ H2 hv => ?_)
    · obtain ⟨k2, r2, left, found, x4, rfl, el, ef, hp, hl, hf⟩ := hv
      have hR2 := hR.later k2 r2
      refine ⟨_, rfl, .inl ⟨rfl, _, SqL.of ef⟩, _, rfl, .inl ⟨rfl, _, SqL.of el⟩, ?_⟩
      refine ⟨_, rfl, _, rfl, lo, left.map jv, rfl, .inl (SqL.of el), row, sc, ns, (left.map jv).length, rfl, hR2, ?_, ?_, fun H3 v k3 r3 hv1 hv2 => ?_⟩
      · rw [List.length_map]
        omega
      · rw [List.length_map]
        omega
      have el3 := k3 _ _ n1.symm el
      have ef3 := k3 _ _ n2.symm ef
      rw [List.length_map] at hv2
      have hk : v.toNat < left.length := by omega
      refine ⟨lo, left.map jv, v, v.toNat, jv left[v.toNat], rfl, rfl, el3, by omega, by omega, by rw [List.length_map]; exact seqIndex_of hv1 (by omega), by rw [List.getElem?_map, List.getElem?_eq_getElem hk]; rfl, ?_⟩
      rw [erase_map]
      refine ⟨fo, found.map jv, jv left[v.toNat], rfl, rfl, by rw [upd_ne n3.symm]; exact ef3, ?_, ?_⟩
      · rw [List.length_map]
        exact small1000 (by omega)
      · refine ⟨((k2.trans k3).at_ nlo).at_ nfoH, (RowAt.upd (RowAt.upd r3.at_ n1) n2), left.eraseIdx v.toNat, found ++ [left[v.toNat]], _, rfl, ?_, ?_, (pop_perm (List.getElem?_eq_getElem hk)).trans hp, ?_, ?_⟩
        · rw [upd_ne n3, upd_same]
        · rw [upd_same, List.map_append]
          rfl
        · rw [List.length_eraseIdx, if_pos hk]
          omega
        · rw [List.length_append, hf]
          rfl
    · obtain ⟨k2, r2, left, found, x4, rfl, el, ef, hp, hl, hf⟩ := hv
      have hnil : left = [] := List.eq_nil_of_length_eq_zero (by omega)
      rw [hnil, List.append_nil] at hp
      have hR2 := hR.later k2 r2
      refine ⟨_, rfl, fo, found.map jv, rfl, .inl ⟨SqL.of ef, fun r nr => ?_⟩⟩
      exact q _ r found (k2.trans (KeepB.of (same_upd nr))) (hR2.same (same_upd nr)) hp upd_same
end
end K19

/-! K19V: what the law leans on; tuples of jobs at addresses, more. -/
namespace K19
open PySem PySem.Spec PyProof.Rows L2
abbrev sLaw : Stmt := topS 27
abbrev nLaw : List Str := ["_law_script", "_law_row", "_law_times", "_law_many", "_law_best", "_law_places", "_law_job", "_law_longer", "_law_part", "_law_at", "_law_total", "_law_machine", "_law_some", "_law_lists", "_law_drawn", "_law_due"]
theorem scLaw : FnScope nLaw ["_law_script"] (defScope sLaw) := ⟨rfl, rfl, rfl, by decide +kernel, rfl, by decide +kernel, by decide +kernel⟩
theorem LsAt.app {H : Hp} {as bs : List Addr} {L M : List (List Nat)} (h : LsAt H as L) (k : LsAt H bs M) : LsAt H (as ++ bs) (L ++ M) := by
  refine ⟨by rw [List.length_append, List.length_append, h.1, k.1], fun i b l e1 e2 => ?_⟩
  by_cases hi : i < as.length
  · rw [List.getElem?_append_left hi] at e1
    rw [List.getElem?_append_left (by rw [← h.1]; exact hi)] at e2
    exact h.2 i b l e1 e2
  · rw [List.getElem?_append_right (by omega)] at e1
    rw [List.getElem?_append_right (by rw [← h.1]; omega), ← h.1] at e2
    exact k.2 _ b l e1 e2
theorem LsAt.set {H : Hp} {as : List Addr} {L : List (List Nat)} {k : Nat} {p : Addr} {l : List Nat} (h : LsAt H as L) (hp : H p = some (.tup (l.map jv))) : LsAt H (as.set k p) (L.set k l) := by
  refine ⟨by rw [List.length_set, List.length_set, h.1], fun i b l' e1 e2 => ?_⟩
  by_cases hi : k = i
  · subst hi
    have hk : k < as.length := by
      have := (List.getElem?_eq_some_iff.mp e1).1
      rw [List.length_set] at this
      exact this
    rw [List.getElem?_set_self hk] at e1
    rw [List.getElem?_set_self (by rw [← h.1]; exact hk)] at e2
    rw [← Option.some.inj e1, ← Option.some.inj e2]
    exact hp
  · rw [List.getElem?_set_ne hi] at e1 e2
    exact h.2 i b l' e1 e2
theorem LsAt.rep {H : Hp} {e : Addr} (h : H e = some (.tup [])) (m : Nat) : LsAt H (List.replicate m e) (List.replicate m []) := by
  refine ⟨by rw [List.length_replicate, List.length_replicate], fun i b l e1 e2 => ?_⟩
  have b1 := List.mem_of_getElem? e1
  have b2 := List.mem_of_getElem? e2
  rw [(List.mem_replicate.mp b1).2, (List.mem_replicate.mp b2).2]
  exact h
theorem rep_flat {α : Type} (x : α) : ∀ m : Nat, (List.replicate m [x]).flatten = List.replicate m x
  | 0 => rfl
  | m + 1 => by rw [List.replicate_succ, List.flatten_cons, rep_flat x m]; rfl
theorem map_rep {α β : Type} (f : α → β) (x : α) (m : Nat) : (List.replicate m x).map f = List.replicate m (f x) := by rw [List.map_replicate]
theorem grow_take {m : Nat} {ps : List (List Nat)} {k : Nat} {l : List Nat} (h : ps[k]? = some l) : grow m (ps.take (k + 1)) = grow m (ps.take k) ++ (List.range m).map fun a => l ++ [a] := by
  unfold grow
  rw [List.take_add_one, h, List.flatMap_append]
  simp
theorem grow_take_length {m : Nat} (ps : List (List Nat)) (k : Nat) : (grow m (ps.take k)).length ≤ ps.length * m := by
  rw [grow_length]
  refine Nat.mul_le_mul_right m ?_
  rw [List.length_take]
  omega
theorem on_snoc_t {f : Nat → Nat} {i k : Nat} (h : f i = k) : on f (List.range (i + 1)) k = on f (List.range i) k ++ [i] := by
  unfold on
  rw [List.range_succ, List.filter_append]
  simp [h]
theorem on_snoc_f {f : Nat → Nat} {i k : Nat} (h : f i ≠ k) : on f (List.range (i + 1)) k = on f (List.range i) k := by
  unfold on
  rw [List.range_succ, List.filter_append]
  simp [h]
theorem on_length (f : Nat → Nat) (n k : Nat) : (on f (List.range n) k).length ≤ n := by
  unfold on
  refine Nat.le_trans (List.length_filter_le _ _) ?_
  rw [List.length_range]
  exact Nat.le_refl _
def optV : Option Int → V
  | none => .non
  | some b => .int b
theorem sums_snoc (f : Nat → Int) (j : Nat) : ((List.range (j + 1)).map f).sum = ((List.range j).map f).sum + f j := by
  rw [List.range_succ, List.map_append, sum_app]
  simp
theorem tup_ne {H : Hp} {p q : Addr} {xs ys : List V} (a : H p = some (.tup xs)) (b : H q = some (.lst ys)) : p ≠ q := ne_of a b (by intro z; cases z)
theorem take_tm (l : List Nat) (ts : List Int) (k : Nat) : (l.take k).map (tm ts) = (l.map (tm ts)).take k := by rw [List.map_take]
theorem cut_take (xs : List V) (k : Nat) (h : k ≤ xs.length) : cutV xs none (some (k : Int)) = xs.take k := by
  unfold cutV
  rw [HT.sIx_none, HT.sIx_nat, Nat.min_eq_left h]
  rfl
theorem cut_all {n k : Nat} (h : HT.sIx n 0 none = 0 ∧ HT.sIx n n (some (k : Int)) = n) : n ≤ k := by
  have := h.2
  rw [HT.sIx_nat] at this
  omega
/-- what the law leans on -/
structure LwC (K : PySem.W.Frag) (mg : Str → Option Value) where
  C : Chk2 K mg
  T : Tk2 K mg
  fS : Addr
  fdS : FuncData
  FS : FnP K "short_sum" sSum fS fdS
  gS : mg "short_sum" = some (.ref fS)
  fL : Addr
  fdL : FuncData
  FL : FnP K "short_lists" sLists fL fdL
  gL : mg "short_lists" = some (.ref fL)
  fQ : Addr
  fdQ : FuncData
  FQ : FnP K "sum_of_lists" sSumL fQ fdQ
  gQ : mg "sum_of_lists" = some (.ref fQ)
  fA : Addr
  fdA : FuncData
  FA : FnP K "_law_alike" sAlike fA fdA
  gA : mg "_law_alike" = some (.ref fA)
  fJ : Addr
  fdJ : FuncData
  FJ : FnP K "_law_jobs" sJobs fJ fdJ
  gJ : mg "_law_jobs" = some (.ref fJ)
  fO : Addr
  fdO : FuncData
  FO : FnP K "_law_order" sOrder fO fdO
  gO : mg "_law_order" = some (.ref fO)
  mS : mg "sorted" = none
  mA : mg "all" = none
  mStr : mg "str" = none
  mM : mg "min" = none
section
variable {P : Program} {w : World} {K : PySem.W.Frag} {mg : Str → Option Value} {base : Heap} {f : Addr} {fd : FuncData}
theorem LwC.okS (L : LwC K mg) : FnOk P w K mg base CX0 6 L.fS L.fdS ["times", "many"] spSum := ok_sum L.C L.FS L.mS L.T.mU
theorem LwC.okL (L : LwC K mg) {c Pt : Addr} (hcode : L.fdL.code = .ref c) (TB : LamX.TabB base mg c Pt) : FnOk P w K mg base CX0 6 L.fL L.fdL ["times", "many"] (spLists Pt) := ok_lists L.C L.FL L.mS L.T.mR hcode TB
theorem LwC.okQ (L : LwC K mg) : FnOk P w K mg base CX0 6 L.fQ L.fdQ ["times", "lists"] spSumL := ok_sumL L.C L.FQ L.mS L.T.mR L.mA L.T.mLi
theorem LwC.okA (L : LwC K mg) : FnOk P w K mg base CX0 1 L.fA L.fdA ["_law_found", "_law_due"] spAlike := ok_alike L.FA L.C.mi L.C.mI L.C.mB L.C.mT L.T.mLi L.mStr
theorem LwC.okJ (L : LwC K mg) : FnOk P w K mg base CX0 3 L.fJ L.fdJ ["_law_row", "_law_most", "_law_time"] (spJobs K) := ok_jobs L.T L.FJ
theorem LwC.okO (L : LwC K mg) : FnOk P w K mg base CX0 2 L.fO L.fdO ["_law_row", "_law_many"] (spOrder K) := ok_order L.T L.FO
theorem LwC.bS (L : LwC K mg) : Binds K L.fdS ["times", "many"] [] := L.FS.bindsN fun _ _ _ _ _ _ us hl => match us, hl with | [_, _], _ => rfl
theorem LwC.bL (L : LwC K mg) : Binds K L.fdL ["times", "many"] [] := L.FL.bindsN fun _ _ _ _ _ _ us hl => match us, hl with | [_, _], _ => rfl
theorem LwC.bQ (L : LwC K mg) : Binds K L.fdQ ["times", "lists"] [] := L.FQ.bindsN fun _ _ _ _ _ _ us hl => match us, hl with | [_, _], _ => rfl
theorem LwC.bA (L : LwC K mg) : Binds K L.fdA ["_law_found", "_law_due"] [] := L.FA.bindsN fun _ _ _ _ _ _ us hl => match us, hl with | [_, _], _ => rfl
theorem LwC.bJ (L : LwC K mg) : Binds K L.fdJ ["_law_row", "_law_most", "_law_time"] [] := L.FJ.bindsN fun _ _ _ _ _ _ us hl => match us, hl with | [_, _, _], _ => rfl
theorem LwC.bO (L : LwC K mg) : Binds K L.fdO ["_law_row", "_law_many"] [] := L.FO.bindsN fun _ _ _ _ _ _ us hl => match us, hl with | [_, _], _ => rfl
end
end K19

/-! K19W: the law's function. -/
namespace K19
open PySem PySem.Spec PyProof.Rows L2
def spLaw (K : PySem.W.Frag) (Pt : Addr) : Sp := fun vs H Q _ => ∃ (sc : Addr) (ns : List Int), vs = [.ref sc] ∧ SqL K H sc (ns.map V.int) ∧ H Pt = some (.tbl #[]) ∧ ∀ H', Q (.bl true) H'
/-- the names of the block over one list's places -/
abbrev scDue : Scope := { kind := .function, names := [(".0", .local), ("_law_at", .local), ("sum", .globalImplicit), ("_law_some", .cell), ("_law_times", .cell)], isGenerator := false, isCoroutine := false }
/-- the law's slots -/
abbrev Sl (sc row tt : Addr) (m : Nat) (rest : List (Option V)) : L2.St := some (.ref sc) :: some (.ref row) :: some (.ref tt) :: some (.int (m : Nat)) :: rest
theorem SqL.keepN {K : PySem.W.Frag} {H H' : Hp} {row sc : Addr} {xs : List V} {o : HO} (h : SqL K H sc xs) (hr : H row = none) (k : KeepN row (L2.upd H row o) H') : SqL K H' sc xs := by
  rcases h with h | h
  · refine .inl ?_
    rcases h with h | ⟨z, h⟩
    · have n : sc ≠ row := ne_of_none h hr
      exact .inl (k _ _ n (fun ps => by intro z; cases z) (by rw [upd_ne n]; exact h))
    · have n : sc ≠ row := ne_of_none h hr
      exact .inr ⟨z, k _ _ n (fun ps => by intro z; cases z) (by rw [upd_ne n]; exact h)⟩
  · exact .inr h
theorem ixn_nat {n j : Nat} (hj : j < n) : ixN n (j : Int) = some j := by
  unfold ixN
  rw [if_pos (by omega), if_pos (by omega)]
  simp
theorem RowOk.extN {K : PySem.W.Frag} {row sc : Addr} {ns : List Int} {H H' : Hp} (h : RowOk K row sc ns H) (e : LamX.ExtN H H') : RowOk K row sc ns H' := by
  obtain ⟨i, r, g, er, hi⟩ := h.at_
  exact ⟨⟨i, r, g, e _ _ er (fun ps => by intro z; cases z), hi⟩, fun H2 k => h.script H2 (KeepN.trans (fun a o _ t q => e a o q t) k)⟩
theorem catA_snoc {K : PySem.W.Frag} {H : Hp} {a t : Addr} {l : List Nat} {j : Nat} {Q : VK} (ha : H a = some (.tup (l.map jv))) (hj : H t = some (.tup [jv j])) (hz : l.length ≤ 100) (h : ∀ (H' : Hp) (p : Addr), Same H H' → H' p = some (.tup ((l ++ [j]).map jv)) → Q (.ref p) H') : rCatA K (.ref a) (.ref t) H Q := by
  refine ⟨a, t, l.map jv, [jv j], rfl, rfl, SqT.of ha, SqT.of hj, ?_, fun h0 => ?_, fun _ hh => absurd hh (by simp), fun _ _ p np => ?_⟩
  · rw [List.length_map]
    exact small_len (by show l.length + 1 ≤ 1000; omega)
  · refine h H t (Same.refl H) ?_
    rw [hj, List.map_append, h0]
    rfl
  · refine h _ p (same_upd np) ?_
    rw [upd_same, List.map_append]
    rfl
theorem slA_take {K : PySem.W.Frag} {H : Hp} {a : Addr} {l : List Nat} {k : Nat} {Q : VK} (ha : H a = some (.tup (l.map jv))) (hk : k < l.length) (h : ∀ (H' : Hp) (p : Addr), Same H H' → H' p = some (.tup ((l.take (k + 1)).map jv)) → Q (.ref p) H') : rSlA K (.ref a) none (some (((k + 1 : Nat)) : Int)) H Q := by
  have hl : (l.map jv).length = l.length := List.length_map ..
  refine ⟨a, l.map jv, rfl, SqT.of ha, fun hw => ?_, fun hw p np => ?_⟩
  · have := cut_all hw
    refine h H a (Same.refl H) ?_
    rw [List.take_of_length_le (by omega)]
    exact ha
  · refine h _ p (same_upd np) ?_
    rw [upd_same, cut_take _ _ (by omega), List.map_take]
section
variable {P : Program} {w : World} {K : PySem.W.Frag} {mg : Str → Option Value} {base : Heap} {f : Addr} {fd : FuncData}
set_option maxHeartbeats 4000000 in
theorem ok_law (L : LwC K mg) (F : FnP K "law" sLaw f fd) {c Pt : Addr} (hcode : L.fdL.code = .ref c) (TB : LamX.TabB base mg c Pt) : FnOk P w K mg base CX0 7 f fd ["_law_script"] (spLaw K Pt) := by
  refine F.ok scLaw (fun vs H Q E h => ?_) (fun cdv A outer s H vs Q E hr h => ?_)
  · obtain ⟨sc, ns, rfl, _⟩ := h
    rfl
  · obtain ⟨sc, ns, rfl, hsc, hPt, q⟩ := h
    refine ⟨_, PSs.nox (pss_cons (ps_set (i := 1) scLaw.nd rfl (.inl rfl) (pe_lst (pa_cons (pv 0) (pa_cons pe_int (pa_cons pe_int (pa_cons pe_int pa_nil))))))
      (pss_cons (ps_asg (pe_tup (pa_cons (pe_ix ix_tup (pe_call L.okJ (hr.mono (by decide)) (by rfl) L.gJ L.FJ.kp L.bJ .nil pass0 (pa_cons (pv 1) (pa_cons pe_int (pa_cons pe_int pa_nil)))) pe_int (fun _ _ => rfl))
            (pa_cons (pe_op op_add pe_int (pe_call L.T.G (hr.mono (by decide)) (by rfl) L.T.g L.T.F.kp L.T.b .nil pass0 (pa_cons (pv 1) (pa_cons pe_int pa_nil)))) pa_nil)))
          (pg_tup rfl (pgs_cons (pg_name (i := 2) scLaw.nd rfl (.inr rfl)) (pgs_cons (pg_name (i := 3) scLaw.nd rfl (.inl rfl)) pgs_nil))))
      (pss_cons (ps_set (i := 4) scLaw.nd rfl (.inl rfl) pe_non)
      (pss_cons (ps_set (i := 5) scLaw.nd rfl (.inl rfl) (pe_lst (pa_cons (pe_tup pa_nil) pa_nil)))
      (pss_cons (ps_for PassesOwn.never rfl (pi_range1 (by rfl) L.T.mR (pa_cons (pe_callB call_len_seq (by rfl) L.T.mL PySem.boot_len (pa_cons (pv 2) pa_nil)) pa_nil)) (pg_name (i := 6) scLaw.nd rfl (.inl rfl))
          (pss_cons (ps_set (i := 7) scLaw.nd rfl (.inl rfl) (pe_lst pa_nil))
          (pss_cons (ps_for PassesOwn.never rfl (pi_list (pv 5)) (pg_name (i := 8) scLaw.nd rfl (.inr rfl))
              (pss_one (ps_set (i := 7) scLaw.nd rfl (.inl rfl) (pe_op op_cat (pv 7)
                (pe_lc (own := [("_law_at", 9)]) (g := gName 9) (tt := tYes) rfl scLaw.nd (pi_range1 (by rfl) L.T.mR (pa_cons (pv 3) pa_nil)) (blkOk_by (N := nLaw) (sc := defScope sLaw) (by decide +kernel))
                  (fun _ _ _ _ _ => pg_name (i := 9) scLaw.nd rfl (.inl rfl)) (fun _ _ _ _ _ => pts_nil)
                  (fun _ _ _ _ _ => pe_op (oCatA K) (pv 8) (pe_tup (pa_cons (pv 9) pa_nil))))))))
          (pss_one (ps_set (i := 5) scLaw.nd rfl (.inl rfl) (pv 7))))))
      (pss_cons (ps_for PassesOwn.never rfl (pi_list (pv 5)) (pg_name (i := 8) scLaw.nd rfl (.inr rfl))
          (pss_cons (ps_set (i := 10) scLaw.nd rfl (.inl rfl) pe_int)
          (pss_cons (ps_for PassesOwn.never rfl (pi_range1 (by rfl) L.T.mR (pa_cons (pv 3) pa_nil)) (pg_name (i := 11) scLaw.nd rfl (.inr rfl))
              (pss_cons (ps_set (i := 12) scLaw.nd rfl (.inr rfl) (pe_callB cr_sorted (by rfl) L.mS boot_sorted (pa_cons
                (pe_lc (own := [("_law_at", 9)]) (g := gName 9) (tt := tTest (tOp rEq (tOp (rIxT K) (tVar 8) (tVar 9)) (tVar 11))) rfl scLaw.nd (pi_range1 (by rfl) L.T.mR (pa_cons (pe_callB call_len_seq (by rfl) L.T.mL PySem.boot_len (pa_cons (pv 2) pa_nil)) pa_nil)) (blkOk_by (N := nLaw) (sc := defScope sLaw) (by decide +kernel))
                  (fun _ _ _ _ _ => pg_name (i := 9) scLaw.nd rfl (.inl rfl)) (fun _ _ _ _ _ => pts_one (pt_cmpR op_eq (pe_ix (ixT K) (pv 8) (pv 9) (fun _ _ => rfl)) (pv 11) (nomark _)))
                  (fun _ _ _ _ _ => pe_ix (ixT K) (pv 2) (pv 9) (fun _ _ => rfl))) pa_nil)))
              (pss_one (ps_set (i := 10) scLaw.nd rfl (.inl rfl) (pe_op op_add (pv 10) (pe_callB (cr_sum rfl) (by rfl) L.T.mU boot_sum (pa_cons
                (pe_lc (own := [("_law_at", 9)]) (g := gName 9) (tt := tYes) rfl scLaw.nd (pi_range1 (by rfl) L.T.mR (pa_cons (pe_callB call_len_seq (by rfl) L.T.mL PySem.boot_len (pa_cons (pv 12) pa_nil)) pa_nil)) (blkOk_by (N := nLaw) (sc := defScope sLaw) (by decide +kernel))
                  (fun _ _ _ _ _ => pg_name (i := 9) scLaw.nd rfl (.inl rfl)) (fun _ _ _ _ _ => pts_nil)
                  (fun _ _ _ _ _ => pe_op op_mul (pe_ix (ixL K) (pv 12) (pv 9) (fun _ _ => rfl)) (pe_op op_sub (pe_callB (cLen K) (by rfl) L.T.mL PySem.boot_len (pa_cons (pv 12) pa_nil)) (pv 9)))) pa_nil)))))))
          (pss_one (ps_set (i := 4) scLaw.nd rfl (.inl rfl) (pe_ifExp (pt_cmp (pc_isN (pv 4)) rfl) (pv 10) (pe_callB (call_min2 rfl) (by rfl) L.mM boot_min (pa_cons (pv 4) (pa_cons (pv 10) pa_nil)))))))))
      (pss_cons (ps_set (i := 13) scLaw.nd rfl (.inl rfl) (pe_call (L.okL hcode TB) hr (by rfl) L.gL L.FL.kp L.bL .nil pass0 (pa_cons (pv 2) (pa_cons (pv 3) pa_nil))))
      (pss_cons (ps_if (PW.pt (pw_or (pt_not (pt_val (pe_call L.okA (hr.mono (by decide)) (by rfl) L.gA L.FA.kp L.bA .nil pass0 (pa_cons (pe_call L.okS hr (by rfl) L.gS L.FS.kp L.bS .nil pass0 (pa_cons (pv 2) (pa_cons (pv 3) pa_nil))) (pa_cons (pv 4) pa_nil)))))
          (pw_or (pt_cmpR op_ne (pe_callB call_len_seq (by rfl) L.T.mL PySem.boot_len (pa_cons (pv 13) pa_nil)) (pv 3) (nomark _))
          (pw_or1 (pt_cmpR op_ne (pe_call L.okQ hr (by rfl) L.gQ L.FQ.kp L.bQ .nil pass0 (pa_cons (pv 2) (pa_cons (pv 13) pa_nil))) (pv 4) (nomark _)))))) pss_never pss_nil)
      (pss_cons (ps_set (i := 14) scLaw.nd rfl (.inl rfl) (pe_op op_rep (pe_lst (pa_cons (pe_tup pa_nil) pa_nil)) (pv 3)))
      (pss_cons (ps_for PassesOwn.never rfl (pi_tup (pe_call L.okO (hr.mono (by decide)) (by rfl) L.gO L.FO.kp L.bO .nil pass0 (pa_cons (pv 1) (pa_cons (pe_callB call_len_seq (by rfl) L.T.mL PySem.boot_len (pa_cons (pv 2) pa_nil)) pa_nil)))) (pg_name (i := 6) scLaw.nd rfl (.inl rfl))
          (pss_cons (ps_set (i := 9) scLaw.nd rfl (.inl rfl) (pe_call L.T.G (hr.mono (by decide)) (by rfl) L.T.g L.T.F.kp L.T.b .nil pass0 (pa_cons (pv 1) (pa_cons (pv 3) pa_nil))))
          (pss_one (ps_asg (pe_op op_catA (pe_ix ix_list (pv 14) (pv 9) (fun _ _ => rfl)) (pe_tup (pa_cons (pv 6) pa_nil))) (pg_sub (pv 14) (pv 9) set_list)))))
      (pss_cons (ps_set (i := 15) scLaw.nd rfl (.inl rfl) pe_int)
      (pss_cons (ps_for PassesOwn.never rfl (pi_list (pv 14)) (pg_name (i := 12) scLaw.nd rfl (.inr rfl))
          (pss_one (ps_set (i := 15) scLaw.nd rfl (.inl rfl) (pe_op op_add (pv 15) (pe_callB (cr_sum rfl) (by rfl) L.T.mU boot_sum (pa_cons
            (pe_lc (own := [("_law_at", 9)]) (g := gName 9) (tt := tYes) rfl scLaw.nd (pi_range1 (by rfl) L.T.mR (pa_cons (pe_callB call_len_seq (by rfl) L.T.mL PySem.boot_len (pa_cons (pv 12) pa_nil)) pa_nil)) (blkOk_by (N := nLaw) (sc := defScope sLaw) (by decide +kernel))
              (fun _ _ _ _ _ => pg_name (i := 9) scLaw.nd rfl (.inl rfl)) (fun _ _ _ _ _ => pts_nil)
              (fun _ _ _ _ _ => pe_callB (cSum K rfl) (by rfl) L.T.mU boot_sum (pa_cons
                (pe_lc (own := [("_law_job", 6)]) (wi := iTup K (tSl (rSlA K) (tVar 12) tNoPart (tPart (tOp (rI0 fun i j => .int (i + j)) (tVar 9) (tC (.int 1)))))) (g := gName 6) (tt := tYes) rfl scLaw.nd (pi_tup (pe_slice (sTupA K) (pv 12) po_none (po_some (pe_op op_add (pv 9) pe_int)))) (blkOk_by (N := nLaw) (sc := scDue) (by decide +kernel))
                  (fun _ _ _ _ _ => pg_name (i := 6) scLaw.nd rfl (.inl rfl)) (fun _ _ _ _ _ => pts_nil)
                  (fun _ _ _ _ _ => pe_ix (ixT K) (pv 2) (pv 6) (fun _ _ => rfl))) pa_nil))) pa_nil))))))
      (pss_one (ps_ret (pe_and (pe_call L.okA (hr.mono (by decide)) (by rfl) L.gA L.FA.kp L.bA .nil pass0 (pa_cons (pe_call L.okQ hr (by rfl) L.gQ L.FQ.kp L.bQ .nil pass0 (pa_cons (pv 2) (pa_cons (pe_callTy call_tuple_of (by rfl) L.T.mT boot_tuple (pa_cons (pv 14) pa_nil)) pa_nil))) (pa_cons (pv 15) pa_nil)))
          (pe_one (pe_cmpR op_ge (pv 15) (pv 4) (nomark _)))))))))))))))))), ?_⟩
    -- row
    refine ⟨_, rfl, by show 4 ≤ sizeLine; decide, fun row nrow => ?_⟩
    have nPt : Pt ≠ row := ne_of_none hPt nrow
    have hR : RowOk K row sc ns (L2.upd H row (.lst [.ref sc, .int 0, .int 3919, .int 0])) := ⟨⟨0, 3919, 0, upd_same, Int.le_refl _⟩, fun H' k => SqL.keepN hsc nrow k⟩
    have hP1 : (L2.upd H row (.lst [.ref sc, .int 0, .int 3919, .int 0])) Pt = some (.tbl #[]) := same_upd nrow _ _ hPt
    show tSeq _ _ _ _ (L2.upd H row (.lst [.ref sc, .int 0, .int 3919, .int 0]))
    generalize L2.upd H row (.lst [.ref sc, .int 0, .int 3919, .int 0]) = H1 at *
    -- times, many
    refine ⟨_, rfl, row, sc, ns, rfl, hR, fun H2 r tt a2 a3 ts k2 r2 er ett h1 h5 hb => ?_⟩
    refine ⟨r, _, 0, .ref tt, rfl, rfl, SqT.of er, rfl, ?_⟩
    refine ⟨_, rfl, row, sc, ns, 3, rfl, r2, by decide, by decide, fun H3 v k3 r3 hv1 hv2 => ?_⟩
    obtain ⟨v0, rfl⟩ : ∃ v0 : Nat, v = (v0 : Nat) := ⟨v.toNat, by omega⟩
    obtain ⟨m, hm⟩ : ∃ m : Nat, m = 1 + v0 := ⟨_, rfl⟩
    have hmi : 1 + (v0 : Int) = (m : Nat) := by omega
    have hm1 : 1 ≤ m := by omega
    have hm3 : m ≤ 3 := by omega
    refine ⟨1, (v0 : Nat), rfl, rfl, by show 2 ≤ sizeLine; decide, fun tp ntp => ?_⟩
    have ntt : tt ≠ row := by
      obtain ⟨i, a, g, e, _⟩ := r2.at_
      exact tup_ne ett e
    have ett3 := k3 _ _ ntt ett
    have hP3 := k3 _ _ nPt (k2 _ _ nPt hP1)
    have s4 : Same H3 (L2.upd H3 tp (.tup [.ref tt, .int (1 + (v0 : Nat))])) := same_upd ntp
    have e4 : (L2.upd H3 tp (.tup [.ref tt, .int (1 + (v0 : Nat))])) tp = some (.tup [.ref tt, .int (1 + (v0 : Nat))]) := upd_same
    generalize L2.upd H3 tp (.tup [.ref tt, .int (1 + (v0 : Nat))]) = H4 at *
    have r4 := r3.same s4
    have ett4 := s4 _ _ ett3
    have hP4 := s4 _ _ hP3
    refine ⟨tp, _, rfl, SqT.of e4, rfl, _, _, rfl, _, _, rfl, rfl, ?_⟩
    clear hR k2 r2 er k3 r3 ett hP1 e4 ett3 hP3 s4
    -- places
    refine ⟨Nat.zero_le _, fun e0 ne0 => ⟨by show 1 ≤ sizeLine; decide, fun pl0 npl0 => ?_⟩⟩
    have s6 : Same H4 (L2.upd (L2.upd H4 e0 (.tup [])) pl0 (.lst [.ref e0])) := (same_upd ne0).trans (same_upd npl0)
    have ee0 : (L2.upd (L2.upd H4 e0 (.tup [])) pl0 (.lst [.ref e0])) e0 = some (.tup []) := same_upd npl0 _ _ upd_same
    have epl0 : (L2.upd (L2.upd H4 e0 (.tup [])) pl0 (.lst [.ref e0])) pl0 = some (.lst [.ref e0]) := upd_same
    show tSeq _ _ _ _ (L2.upd (L2.upd H4 e0 (.tup [])) pl0 (.lst [.ref e0]))
    generalize L2.upd (L2.upd H4 e0 (.tup [])) pl0 (.lst [.ref e0]) = H6 at *
    have r6 := r4.same s6
    have ett6 := s6 _ _ ett4
    have hP6 := s6 _ _ hP4
    have hlen : (ts.map V.int).length = ts.length := List.length_map ..
    refine ⟨_, rfl, tt, ts.map V.int, rfl, .inr (SqT.of ett6), ((ts.map V.int).length : Nat), rfl, by omega, by omega, ?_⟩
    have en : (((ts.map V.int).length : Nat) : Int).toNat = ts.length := by omega
    rw [en]
    refine for_range (fun i σ H7 => Same H6 H7 ∧ ∃ (as : List Addr) (pl : Addr) (x6 x7 x8 : Option V), σ = Sl sc row tt m [some .non, some (.ref pl), x6, x7, x8, none, none, none, none, none, none, none] ∧ H7 pl = some (.lst (as.map V.ref)) ∧ LsAt H7 as (parts m i))
      ⟨Same.refl _, [e0], pl0, none, none, none, by rw [hm]; rfl, epl0, LsAt.nil.snoc (l := []) ee0⟩ (fun i σ H7 hi hv => ?_) (fun σ H7 hv => ?_)
    · obtain ⟨s7, as, pl, x6, x7, x8, rfl, epl, la⟩ := hv
      have hpl : (parts m i).length ≤ 243 := parts_small hm3 (by omega)
      refine ⟨Nat.zero_le _, fun lg0 nlg0 => ?_⟩
      have s8 : Same H7 (L2.upd H7 lg0 (.lst [])) := same_upd nlg0
      have elg0 : (L2.upd H7 lg0 (.lst [])) lg0 = some (.lst []) := upd_same
      show tSeq _ _ _ _ (L2.upd H7 lg0 (.lst []))
      generalize L2.upd H7 lg0 (.lst []) = H8 at *
      have epl8 := s8 _ _ epl
      have la8 := la.keep (H' := H8) fun a xs e => s8 _ _ e
      refine ⟨_, rfl, pl, rfl, ⟨_, SqL.of epl8⟩, ?_⟩
      refine for_list (xs := as.map V.ref) (fun k σ H9 => Same H8 H9 ∧ ∃ (bs : List Addr) (lg : Addr) (x8 : Option V), σ = Sl sc row tt m [some .non, some (.ref pl), some (.int (0 + (i : Nat))), some (.ref lg), x8, none, none, none, none, none, none, none] ∧ H9 lg = some (.lst (bs.map V.ref)) ∧ LsAt H9 bs (grow m ((parts m i).take k)))
        ⟨Same.refl _, [], lg0, x8, rfl, elg0, .nil⟩ (fun k σ H9 _ h => SqL.of (h.1 _ _ epl8)) (fun k x σ H9 ex hv => ?_) (fun σ H9 hv => ?_)
      · obtain ⟨s9, bs, lg, x8, rfl, elg, lb⟩ := hv
        obtain ⟨a, ea, rfl⟩ := getR ex
        obtain ⟨l, el, ha⟩ := la8.at ea
        have hl : l.length = i := (parts_mem.mp (List.mem_of_getElem? el)).1
        have ha9 := s9 _ _ ha
        refine ⟨_, rfl, _, rfl, (m : Nat), rfl, by omega, by omega, fun D nD => ?_⟩
        have em : ((m : Nat) : Int).toNat = m := by omega
        rw [em]
        refine lc_range (fun j H10 => Same H9 H10 ∧ ∃ cs : List Addr, H10 D = some (.lst (cs.map V.ref)) ∧ LsAt H10 cs ((List.range j).map fun a => l ++ [a])) ⟨same_upd nD, [], upd_same, .nil⟩ (fun j H10 hj hv => ?_) (fun H10 hv => ?_)
        · obtain ⟨s10, cs, eD, lc⟩ := hv
          have z0 : (0 : Int) + (j : Nat) = ((j : Nat) : Int) := by omega
          rw [z0]
          have hcs : cs.length = j := by
            rw [lc.1, List.length_map, List.length_range]
          have fin : ∀ (H11 : Hp) (p : Addr), Same H10 H11 → H11 p = some (.tup ((l ++ [j]).map jv)) → ∃ acc, H11 D = some (.lst acc) ∧ acc.length < sizeLine ∧ (Same H9 (L2.upd H11 D (.lst (acc ++ [.ref p]))) ∧ ∃ cs : List Addr, (L2.upd H11 D (.lst (acc ++ [.ref p]))) D = some (.lst (cs.map V.ref)) ∧ LsAt (L2.upd H11 D (.lst (acc ++ [.ref p]))) cs ((List.range (j + 1)).map fun a => l ++ [a])) := fun H11 p s11 hp => by
            have eD11 := s11 _ _ eD
            refine ⟨_, eD11, ?_, same_at (s10.trans s11) nD, cs ++ [p], ?_, ?_⟩
            · rw [List.length_map, hcs]
              exact small1000 (by omega)
            · rw [upd_same, List.map_append]
              rfl
            · rw [List.range_succ, List.map_append]
              refine LsAt.snoc ((lc.keep fun a xs e => s11 _ _ e).keep fun a xs e => ?_) ?_
              · exact (upd_ne (tup_ne e eD11)).trans e
              · exact (upd_ne (tup_ne hp eD11)).trans hp
          refine ⟨rfl, ?_⟩
          refine ⟨_, rfl, _, rfl, by show 1 ≤ sizeLine; decide, fun t nt => ?_⟩
          have s11 : Same H10 (L2.upd H10 t (.tup [jv j])) := same_upd nt
          have ha11 := s11 _ _ (s10 _ _ ha9)
          refine ⟨a, t, l.map jv, [jv j], rfl, rfl, SqT.of ha11, SqT.of upd_same, ?_, fun h0 => ?_, fun _ hh => absurd hh (by simp), fun _ _ p np => ?_⟩
          · rw [List.length_map]
            exact small_len (by show l.length + 1 ≤ 1000; omega)
          · refine fin _ t s11 ?_
            rw [upd_same, List.map_append, h0]
            rfl
          · refine fin _ p (s11.trans (same_upd np)) ?_
            rw [upd_same, List.map_append]
            rfl
        · obtain ⟨s10, cs, eD, lc⟩ := hv
          have hbs : bs.length ≤ 243 * m := by
            rw [lb.1]
            exact Nat.le_trans (grow_take_length _ _) (Nat.mul_le_mul_right m hpl)
          have hcs : cs.length = m := by
            rw [lc.1, List.length_map, List.length_range]
          refine ⟨lg, D, bs.map V.ref, cs.map V.ref, rfl, rfl, s10 _ _ elg, eD, ?_, fun p np => ?_⟩
          · rw [List.length_map, List.length_map]
            exact small_len (by omega)
          · have s11 := same_upd (o := .lst (bs.map V.ref ++ cs.map V.ref)) np
            refine ⟨(s9.trans s10).trans s11, bs ++ cs, p, _, rfl, by rw [upd_same, List.map_append], ?_⟩
            rw [grow_take el]
            exact ((lb.keep fun a xs e => s10 _ _ e).app lc).keep fun a xs e => s11 _ _ e
      · obtain ⟨s9, bs, lg, x8, rfl, elg, lb⟩ := hv
        rw [List.length_map, la.1, List.take_length] at lb
        exact ⟨_, rfl, (s7.trans s8).trans s9, bs, lg, _, _, _, rfl, elg, lb⟩
    obtain ⟨s7, as, pl, x6, x7, x8, rfl, epl, la⟩ := hv
    have r7 := r6.same s7
    have ett7 := s7 _ _ ett6
    have hP7 := s7 _ _ hP6
    have h0 : ∀ x ∈ ts, 0 ≤ x := fun x hx => by
      have := (hb x hx).1
      omega
    have hpn : (parts m ts.length).length ≤ 243 := parts_small hm3 h5
    have em : ((m : Nat) : Int).toNat = m := by omega
    -- the least of all
    refine ⟨_, rfl, pl, rfl, ⟨_, SqL.of epl⟩, ?_⟩
    refine for_list (xs := as.map V.ref) (fun i σ H8 => Same H7 H8 ∧ ∃ (x8 x10 x11 x12 : Option V), σ = Sl sc row tt m [some (optV (best? (((parts m ts.length).take i).map fun p => total ts m (asg p)))), some (.ref pl), x6, x7, x8, none, x10, x11, x12, none, none, none])
      ⟨Same.refl _, x8, none, none, none, rfl⟩ (fun i σ H8 _ h => SqL.of (h.1 _ _ epl)) (fun i x σ H8 ex hv => ?_) (fun σ H8 hv => ?_)
    · obtain ⟨s8, x8, x10, x11, x12, rfl⟩ := hv
      obtain ⟨a, ea, rfl⟩ := getR ex
      obtain ⟨l, el, ha⟩ := la.at ea
      have hpm := parts_mem.mp (List.mem_of_getElem? el)
      have ha8 := s8 _ _ ha
      have ett8 := s8 _ _ ett7
      generalize hbq : best? (((parts m ts.length).take i).map fun p => total ts m (asg p)) = bq
      refine ⟨_, rfl, (m : Nat), rfl, by omega, by omega, ?_⟩
      rw [em]
      refine for_range (fun j σ H9 => Same H8 H9 ∧ ∃ (x11 x12 : Option V), σ = Sl sc row tt m [some (optV bq), some (.ref pl), x6, x7, some (.ref a), none, some (.int ((List.range j).map fun k => least ((on (asg l) (List.range ts.length) k).map (tm ts))).sum), x11, x12, none, none, none])
        ⟨Same.refl _, x11, x12, rfl⟩ (fun j σ H9 hj hv => ?_) (fun σ H9 hv => ?_)
      · obtain ⟨s9, x11, x12, rfl⟩ := hv
        have ha9 := s9 _ _ ha8
        have ett9 := s9 _ _ ett8
        refine ⟨_, rfl, tt, ts.map V.int, rfl, .inr (SqT.of ett9), ((ts.map V.int).length : Nat), rfl, by omega, by omega, fun D nD => ?_⟩
        rw [en]
        refine lc_range (fun i H10 => Same H9 H10 ∧ H10 D = some (.lst (((on (asg l) (List.range i) j).map (tm ts)).map V.int))) ⟨same_upd nD, upd_same⟩ (fun i H10 hi hv => ?_) (fun H10 hv => ?_)
        · obtain ⟨s10, eD⟩ := hv
          have z0 : (0 : Int) + (i : Nat) = ((i : Nat) : Int) := by omega
          rw [z0]
          refine ⟨rfl, ?_⟩
          have hli : (l.map jv)[i]? = some (jv (asg l i)) := by
            have : i < l.length := by omega
            rw [List.getElem?_map, List.getElem?_eq_getElem this]
            unfold asg
            rw [List.getD_eq_getElem?_getD, List.getElem?_eq_getElem this]
            rfl
          refine ⟨_, rfl, _, rfl, a, l.map jv, i, jv (asg l i), rfl, rfl, SqT.of (s10 _ _ ha9), atI_nat hli, _, rfl, rfl, _, rfl, ?_⟩
          refine ite2 (fun z => ?_) (fun z => ?_)
          · have z1 : V.int ((asg l i : Nat) : Int) = V.int (0 + (j : Nat)) := of_decide_eq_true z
            have hc : asg l i = j := by
              have z2 : ((asg l i : Nat) : Int) = 0 + (j : Nat) := by injection z1
              omega
            refine ⟨_, rfl, _, rfl, tt, ts.map V.int, i, .int (tm ts i), rfl, rfl, SqT.of (s10 _ _ ett9), atI_nat (tm_at hi), _, eD, ?_, same_at s10 nD, ?_⟩
            · rw [List.length_map, List.length_map]
              have := on_length (asg l) i j
              exact small1000 (by omega)
            · rw [upd_same, on_snoc_t hc, List.map_append, List.map_append]
              rfl
          · have hc : asg l i ≠ j := fun hc => z (decide_eq_true (by rw [hc]; show V.int _ = V.int (0 + (j : Nat)); rw [Int.zero_add]))
            exact ⟨s10, by rw [on_snoc_f hc]; exact eD⟩
        · obtain ⟨s10, eD⟩ := hv
          have hon := on_length (asg l) ts.length j
          refine ⟨D, (on (asg l) (List.range ts.length) j).map (tm ts), rfl, SqL.of eD, by rw [List.length_map]; omega, fun ns' l2 hperm hord nl => ?_⟩
          have hns : ns'.length ≤ 5 := by
            rw [hperm.length_eq, List.length_map]
            omega
          have s11 : Same H10 (L2.upd H10 l2 (.lst (ns'.map V.int))) := same_upd nl
          have e11 : (L2.upd H10 l2 (.lst (ns'.map V.int))) l2 = some (.lst (ns'.map V.int)) := upd_same
          show tSeq _ _ _ _ (L2.upd H10 l2 (.lst (ns'.map V.int)))
          generalize L2.upd H10 l2 (.lst (ns'.map V.int)) = H11 at *
          have hl2 : (ns'.map V.int).length = ns'.length := List.length_map ..
          refine ⟨_, rfl, _, rfl, l2, ns'.map V.int, rfl, .inl (SqL.of e11), ((ns'.map V.int).length : Nat), rfl, by omega, by omega, fun D2 nD2 => ?_⟩
          have en2 : (((ns'.map V.int).length : Nat) : Int).toNat = ns'.length := by omega
          rw [en2]
          refine lc_range (fun k H12 => Same H11 H12 ∧ H12 D2 = some (.lst (((List.range k).map (term ns')).map V.int))) ⟨same_upd nD2, upd_same⟩ (fun k H12 hk hv => ?_) (fun H12 hv => ?_)
          · obtain ⟨s12, eD2⟩ := hv
            have z0 : (0 : Int) + (k : Nat) = ((k : Nat) : Int) := by omega
            rw [z0]
            refine ⟨rfl, ?_⟩
            have hx : (ns'.map V.int)[k]? = some (.int (ns'.getD k 0)) := by
              rw [List.getElem?_map, List.getElem?_eq_getElem hk, List.getD_eq_getElem?_getD, List.getElem?_eq_getElem hk]
              rfl
            refine ⟨_, rfl, _, rfl, l2, ns'.map V.int, k, .int (ns'.getD k 0), rfl, rfl, SqL.of (s12 _ _ e11), atI_nat hx, _, rfl, l2, ns'.map V.int, rfl, .inl (SqL.of (s12 _ _ e11)), _, rfl, ((ns'.map V.int).length : Nat), (k : Nat), rfl, rfl, _, _, rfl, rfl, .inr ⟨by omega, by omega⟩, _, eD2, ?_, same_at (s12) nD2, ?_⟩
            · rw [List.length_map, List.length_map, List.length_range]
              exact small1000 (by omega)
            · rw [upd_same, List.range_succ, List.map_append, List.map_append, hl2]
              rfl
          · obtain ⟨s12, eD2⟩ := hv
            refine ⟨D2, (List.range ns'.length).map (term ns'), rfl, SqL.of eD2, _, _, rfl, rfl, ?_⟩
            rw [terms_sum, least_eq hperm hord (map_tm_nonneg h0 _)]
            refine ⟨((s9.trans s10).trans s11).trans s12, some (.int (0 + (j : Nat))), some (.ref l2), ?_⟩
            rw [sums_snoc]
            rfl
      · obtain ⟨s9, x11, x12, rfl⟩ := hv
        refine ⟨_, rfl, _, rfl, ?_⟩
        have ebest : best? (((parts m ts.length).take (i + 1)).map fun p => total ts m (asg p)) = step? bq (total ts m (asg l)) := by
          rw [List.take_add_one, el, List.map_append]
          show best? (_ ++ [total ts m (asg l)]) = _
          rw [best_snoc, hbq]
        rw [ebest]
        refine ite2 (fun z => ?_) (fun z => ?_)
        · cases bq with
          | none => exact ⟨_, rfl, s8.trans s9, _, _, _, _, rfl⟩
          | some b => exact V.noConfusion (of_decide_eq_true z : V.int b = V.non)
        · cases bq with
          | none => exact absurd (decide_eq_true rfl) z
          | some b => exact ⟨_, rfl, _, rfl, _, _, rfl, s8.trans s9, _, _, _, _, rfl⟩
    obtain ⟨s8, x8', x10, x11, x12, rfl⟩ := hv
    generalize hbq : best? ((List.take (List.map V.ref as).length (parts m ts.length)).map fun p => total ts m (asg p)) = bq
    rw [List.length_map, la.1, List.take_length] at hbq
    have ett8 := s8 _ _ ett7
    have hP8 := s8 _ _ hP7
    have r8 := r7.same s8
    -- short_lists
    refine ⟨_, rfl, _, rfl, tt, ts, m, rfl, ett8, hP8, h1, h5, hb, hm1, hm3, fun H9 lr ls eN elr lls => ?_⟩
    have ett9 := eN _ _ ett8 (fun ps => by intro z; cases z)
    have r9 : RowOk K row sc ns H9 := r8.extN eN
    have hLL : ((List.range m).map (rounds (ordOf ts) m)).length = m := by rw [List.length_map, List.length_range]
    have hLf : ((List.range m).map (rounds (ordOf ts) m)).flatten.Perm (List.range ts.length) := (rounds_flat hm1).trans (ordOf_perm ts)
    -- the test
    refine ⟨_, rfl, _, rfl, tt, ts, m, rfl, ett9, h1, by omega, hb, hm1, by omega, fun H10 ds s10 hdp hdf => ?_⟩
    have hE := short_ends hm1 hm3 h5 (ordOf_perm ts) (ordOf_rising ts) hdp hdf
    obtain rfl : bq = some (G m 0 ds) := hbq.symm.trans (best_parts hm1 h0 hdp hdf hLL hLf hE)
    refine ⟨_, rfl, G m 0 ds, rfl, fun H11 s11 => ⟨true, rfl, iteF ?_⟩⟩
    have sb := s10.trans s11
    have elr11 := sb _ _ elr
    have ett11 := sb _ _ ett9
    have lls11 := lls.keep (H' := H11) fun a xs e => sb _ _ e
    refine ⟨_, rfl, lr, ls.map V.ref, rfl, .inr (SqT.of elr11), _, rfl, rfl, false, ?_, iteF ?_⟩
    · rw [List.length_map, lls.1, hLL]
      show V.bl (!decide (V.int (m : Nat) = V.int (m : Nat))) = V.bl false
      rw [decide_eq_true rfl]
      rfl
    refine ⟨_, rfl, _, rfl, tt, lr, ts, ls, _, rfl, ett11, h1, by omega, hb, elr11, lls11, by omega, by omega, hLf, fun H12 s12 => ⟨_, rfl, rfl, false, ?_, iteF ?_⟩⟩
    · rw [hE]
      show V.bl (!decide (V.int (G m 0 ds) = V.int (G m 0 ds))) = V.bl false
      rw [decide_eq_true rfl]
      rfl
    have r12 := (r9.same sb).same s12
    have ett12 := s12 _ _ ett11
    -- drawn
    refine ⟨Nat.zero_le _, fun e1 ne1 => ⟨by show 1 ≤ sizeLine; decide, fun t1 nt1 => ?_⟩⟩
    have sa : Same H12 (L2.upd (L2.upd H12 e1 (.tup [])) t1 (.lst [.ref e1])) := (same_upd ne1).trans (same_upd nt1)
    have ee1 : (L2.upd (L2.upd H12 e1 (.tup [])) t1 (.lst [.ref e1])) e1 = some (.tup []) := same_upd nt1 _ _ upd_same
    have et1 : (L2.upd (L2.upd H12 e1 (.tup [])) t1 (.lst [.ref e1])) t1 = some (.lst [.ref e1]) := upd_same
    generalize L2.upd (L2.upd H12 e1 (.tup [])) t1 (.lst [.ref e1]) = Ha at *
    have ra := r12.same sa
    have etta := sa _ _ ett12
    refine ⟨_, rfl, t1, (m : Nat), [.ref e1], rfl, rfl, et1, by omega, by omega, ?_, fun dp ndp => ?_⟩
    · rw [em]
      exact small_len (by show 1 * m ≤ 1000; omega)
    rw [em, rep_flat, ← map_rep]
    have nrd : row ≠ dp := ra.ne ndp
    have sd : Same Ha (L2.upd Ha dp (.lst ((List.replicate m e1).map V.ref))) := same_upd ndp
    have edp : (L2.upd Ha dp (.lst ((List.replicate m e1).map V.ref))) dp = some (.lst ((List.replicate m e1).map V.ref)) := upd_same
    show tSeq _ _ _ _ (L2.upd Ha dp (.lst ((List.replicate m e1).map V.ref)))
    generalize L2.upd Ha dp (.lst ((List.replicate m e1).map V.ref)) = Hd at *
    have rd := ra.same sd
    have ettd := sd _ _ etta
    -- the loop of draws
    refine ⟨_, rfl, _, rfl, tt, ts.map V.int, rfl, .inr (SqT.of ettd), row, sc, ns, (ts.map V.int).length, rfl, rd, by omega, fun He jr js ke re hjs ejr => ⟨jr, rfl, ⟨_, SqT.of ejr⟩, ?_⟩⟩
    rw [hlen] at hjs
    refine for_tup (xs := js.map jv) (fun i σ Hx => KeepB row Ha Hx ∧ RowAt row sc Hx ∧ Hx jr = some (.tup (js.map jv)) ∧ ∃ (as : List Addr) (Ls : List (List Nat)) (x6 x9 : Option V), σ = Sl sc row tt m [some (.int (G m 0 ds)), some (.ref pl), x6, x7, x8', x9, x10, x11, x12, some (.ref lr), some (.ref dp), none] ∧ Hx dp = some (.lst (as.map V.ref)) ∧ LsAt Hx as Ls ∧ Ls.length = m ∧ Ls.flatten.Perm (js.take i))
      ⟨(KeepB.of sd).trans ke, re.at_, ejr, List.replicate m e1, List.replicate m [], x6, none, rfl, ke _ _ nrd.symm edp, ?_, List.length_replicate .., ?_⟩ (fun i σ Hx _ h => SqT.of h.2.2.1) (fun i x σ Hx ex hv => ?_) (fun σ Hx hv => ?_)
    · refine (LsAt.rep (sd _ _ ee1) m).keep fun a xs e => ke _ _ ?_ e
      obtain ⟨i, b, g, er, _⟩ := rd.at_
      exact tup_ne e er
    · rw [replicate_flat]
      exact List.Perm.refl _
    · obtain ⟨kx, rx, ejx, as, Ls, x6, x9, rfl, edx, lx, hLs, hpx⟩ := hv
      obtain ⟨job, ejob, rfl⟩ := getJ ex
      have hRx : RowOk K row sc ns Hx := ra.later kx rx
      refine ⟨_, rfl, _, rfl, row, sc, ns, (m : Nat), rfl, hRx, by omega, by omega, fun Hy v ky ry hv1 hv2 => ?_⟩
      obtain ⟨k, rfl⟩ : ∃ k : Nat, v = (k : Nat) := ⟨v.toNat, by omega⟩
      have hk : k < Ls.length := by omega
      have hka : k < as.length := by rw [lx.1]; exact hk
      have eLk : Ls[k]? = some Ls[k] := List.getElem?_eq_getElem hk
      have eak : as[k]? = some as[k] := List.getElem?_eq_getElem hka
      have hak := lx.2 k _ _ eak eLk
      generalize Ls[k] = lk at *
      generalize as[k] = ak at *
      have nak : ak ≠ row := by
        obtain ⟨i, b, g, er, _⟩ := rx
        exact tup_ne hak er
      have haky := ky _ _ nak hak
      have edy := ky _ _ nrd.symm edx
      have hlk : lk.length ≤ 100 := by
        have q1 := (List.sublist_flatten_of_mem (List.mem_of_getElem? eLk)).length_le
        have q2 := hpx.length_eq
        have q3 := hjs.length_eq
        rw [List.length_range] at q3
        have q4 : (js.take i).length ≤ js.length := by rw [List.length_take]; omega
        omega
      refine ⟨_, rfl, _, rfl, dp, as.map V.ref, (k : Nat), .ref ak, rfl, rfl, SqL.of edy, atI_nat (by rw [List.getElem?_map, eak]; rfl), _, rfl, by show 1 ≤ sizeLine; decide, fun t nt => ?_⟩
      refine catA_snoc (same_upd nt _ _ haky) upd_same hlk fun Hz p sz hp => ?_
      have syz : Same Hy Hz := (same_upd nt).trans sz
      have edz := syz _ _ edy
      refine ⟨_, rfl, _, rfl, dp, as.map V.ref, (k : Nat), k, rfl, rfl, edz, ixn_nat (by rw [List.length_map]; exact hka), ?_⟩
      have njr : jr ≠ row := by
        obtain ⟨i, b, g, er, _⟩ := rx
        exact tup_ne ejx er
      have ejz := syz _ _ (ky _ _ njr ejx)
      refine ⟨((kx.trans ky).trans (KeepB.of syz)).at_ ndp, RowAt.upd (ry.same syz).at_ nrd, (upd_ne (tup_ne ejz edz)).trans ejz, as.set k p, Ls.set k (lk ++ [job]), _, _, rfl, ?_, ?_, by rw [List.length_set]; exact hLs, ?_⟩
      · rw [upd_same, List.map_set]
      · refine LsAt.set (lx.keep fun a xs e => ?_) ((upd_ne (tup_ne hp edz)).trans hp)
        have na : a ≠ row := by
          obtain ⟨i, b, g, er, _⟩ := rx
          exact tup_ne e er
        have ez := syz _ _ (ky _ _ na e)
        exact (upd_ne (tup_ne ez edz)).trans ez
      · refine (set_flat eLk).trans ?_
        rw [List.take_add_one, ejob]
        exact hpx.append_right _
    obtain ⟨kx, rx, ejx, as2, Ls, x6, x9, rfl, edx, lx, hLs, hpx⟩ := hv
    rw [List.length_map, List.take_length] at hpx
    have hpL : Ls.flatten.Perm (List.range ts.length) := hpx.trans hjs
    have ettx := kx _ _ ntt etta
    have hjl : ∀ l ∈ Ls, l.length ≤ 5 ∧ ∀ j ∈ l, j < ts.length := fun l hl => by
      have q1 := (List.sublist_flatten_of_mem hl).length_le
      have q2 := hpL.length_eq
      rw [List.length_range] at q2
      exact ⟨by omega, fun j hj => List.mem_range.mp (hpL.mem_iff.mp (List.mem_flatten.mpr ⟨l, hl, hj⟩))⟩
    -- the sum of the ends of the drawn lists
    refine ⟨_, rfl, dp, rfl, ⟨_, SqL.of edx⟩, ?_⟩
    refine for_list (xs := as2.map V.ref) (fun i τ Hy => Same Hx Hy ∧ ∃ (x12 : Option V), τ = Sl sc row tt m [some (.int (G m 0 ds)), some (.ref pl), x6, x7, x8', x9, x10, x11, x12, some (.ref lr), some (.ref dp), some (.int (ends ts (Ls.take i)))])
      ⟨Same.refl _, x12, rfl⟩ (fun i τ Hy _ h => SqL.of (h.1 _ _ edx)) (fun i x τ Hy ex hv => ?_) (fun τ Hy hv => ?_)
    · obtain ⟨sy, x12, rfl⟩ := hv
      obtain ⟨a, ea, rfl⟩ := getR ex
      obtain ⟨l, el, ha⟩ := lx.at ea
      obtain ⟨hl5, hlj⟩ := hjl l (List.mem_of_getElem? el)
      have hay := sy _ _ ha
      have etty := sy _ _ ettx
      have hlm : (l.map jv).length = l.length := List.length_map ..
      refine ⟨_, rfl, _, rfl, a, l.map jv, rfl, .inr (SqT.of hay), ((l.map jv).length : Nat), rfl, by omega, by omega, fun D nD => ?_⟩
      have en3 : (((l.map jv).length : Nat) : Int).toNat = l.length := by omega
      rw [en3]
      refine lc_range (fun k H10 => Same Hy H10 ∧ H10 D = some (.lst (((List.range k).map fun q => ((l.map (tm ts)).take (q + 1)).sum).map V.int))) ⟨same_upd nD, upd_same⟩ (fun k H10 hk hv => ?_) (fun H10 hv => ?_)
      · obtain ⟨s10, eD⟩ := hv
        have z0 : (0 : Int) + (k : Nat) = ((k : Nat) : Int) := by omega
        rw [z0]
        refine ⟨rfl, ?_⟩
        refine ⟨_, rfl, _, rfl, _, _, rfl, rfl, _, rfl, slA_take (s10 _ _ hay) hk fun H11 p s11 hp => ⟨p, rfl, ⟨_, SqT.of hp⟩, fun D2 nD2 => ?_⟩⟩
        have ett11 := s11 _ _ (s10 _ _ etty)
        refine lc_tup (xs := (l.take (k + 1)).map jv) (fun q H12 => Same H11 H12 ∧ H12 D2 = some (.lst ((((l.take (k + 1)).take q).map (tm ts)).map V.int))) ⟨same_upd nD2, upd_same⟩ (fun q H12 _ h => SqT.of (h.1 _ _ hp)) (fun q x H12 ex hv => ?_) (fun H12 hv => ?_)
        · obtain ⟨s12, eD2⟩ := hv
          obtain ⟨job, ejob, rfl⟩ := getJ ex
          have hjob : job < ts.length := hlj job (List.mem_of_mem_take (List.mem_of_getElem? ejob))
          refine ⟨rfl, ?_⟩
          refine ⟨_, rfl, _, rfl, tt, ts.map V.int, job, .int (tm ts job), rfl, rfl, SqT.of (s12 _ _ ett11), atI_nat (tm_at hjob), _, eD2, ?_, same_at s12 nD2, ?_⟩
          · rw [List.length_map, List.length_map, List.length_take, List.length_take]
            exact small1000 (by omega)
          · rw [upd_same, List.take_add_one (i := q), ejob, List.map_append, List.map_append]
            rfl
        · obtain ⟨s12, eD2⟩ := hv
          rw [List.length_map, List.take_length] at eD2
          have eD12 := s12 _ _ (s11 _ _ eD)
          refine ⟨D2, (l.take (k + 1)).map (tm ts), rfl, SqL.of eD2, _, eD12, ?_, same_at ((s10.trans s11).trans s12) nD, ?_⟩
          · rw [List.length_map, List.length_map, List.length_range]
            exact small1000 (by omega)
          · rw [upd_same, List.range_succ, List.map_append, List.map_append, List.map_take]
            rfl
      · obtain ⟨s10, eD⟩ := hv
        refine ⟨D, (List.range l.length).map fun q => ((l.map (tm ts)).take (q + 1)).sum, rfl, SqL.of eD, _, _, rfl, rfl, ?_⟩
        have ep : ((List.range l.length).map fun q => ((l.map (tm ts)).take (q + 1)).sum).sum = cost (l.map (tm ts)) := by
          have := prefix_all (l.map (tm ts))
          rw [List.length_map] at this
          exact this
        rw [ep, take_ends el]
        exact ⟨sy.trans s10, _, rfl⟩
    obtain ⟨sy, x12', rfl⟩ := hv
    rw [List.length_map, lx.1, List.take_length]
    have edy := sy _ _ edx
    have etty := sy _ _ ettx
    have ly := lx.keep (H' := Hy) fun a xs e => sy _ _ e
    refine ⟨_, rfl, _, rfl, dp, as2.map V.ref, rfl, .inl ⟨SqL.of edy, fun t nt => ?_⟩⟩
    refine ⟨tt, t, ts, as2, Ls, rfl, same_upd nt _ _ etty, h1, by omega, hb, upd_same, ly.keep fun a xs e => same_upd nt _ _ e, by omega, by omega, hpL, fun H13 s13 => ?_⟩
    refine ⟨_, rfl, ends ts Ls, rfl, fun H14 s14 => ⟨true, rfl, iteT ⟨_, rfl, _, rfl, _, _, rfl, rfl, ?_⟩⟩⟩
    exact q_t (Q := Q) (ends_lower hm1 h0 (by omega) hpL hdp hdf) (q H14)
end
end K19

set_option maxHeartbeats 0
/-! K19H: what the program's top leaves behind. -/
namespace K19
open PySem PySem.Spec PyProof.Rows L2
def dn (x : Str) (i : Nat) : He.DefD := ⟨(x, none), x, x, defArgs (topS i), defBody (topS i), defScope (topS i), [], []⟩
def fnL : List He.DefD := [dn "is_integer" 1, dn "is_in" 2, dn "is_list" 3, dn "first_bad" 12, dn "need_times" 13, dn "need_benches" 16, dn "need" 17, dn "short_sum" 18, dn "short_lists" 19, dn "sum_of_lists" 20, dn "_law_taken" 22, dn "_law_pick" 23, dn "_law_alike" 24, dn "_law_jobs" 25, dn "_law_order" 26, dn "law" 27]
def faL : List He.Fa := [.glo "is_integer", .glo "is_in", .glo "is_list", .glo "first_bad", .glo "need_times", .glo "need_benches", .glo "need", .glo "short_sum", .glo "short_lists", .glo "sum_of_lists", .glo "_law_taken", .glo "_law_pick", .glo "_law_alike", .glo "_law_jobs", .glo "_law_order", .glo "law",
  .free "isinstance", .free "int", .free "bool", .free "tuple", .free "len", .free "enumerate", .free "sorted", .free "sum", .free "range", .free "list", .free "all", .free "str", .free "min",
  .int "MOST_JOBS" 10, .int "MOST_TIME" 60, .int "MOST_BENCHES" 6]
def tfL : List He.Defn := [("short_lists", none)]
abbrev Rw : PySem.W.OpenRow := PySem.W.OpenLaw.row PySem.Challenge.rw_shoporders_k19_whole_sums_on_machines
def exL : PySem.W.Frag → Bool := fun _ => true
abbrev hkL : PySem.W.Hook := He.hookX 4 faL fnL [] tfL exL
def obL (s : PySem.W.SharedT) : He.AlX := He.obsX 4 faL fnL [] tfL exL (HandSHeadRun.getT s)
theorem obL_eq (s : PySem.W.SharedT) : obL s = hkL.obs s.abs := He.obsX_eq (HandSHeadRun.getT_eq s)
def looseL : List Str := ["is_integer", "is_in", "is_list", "ShopError", "BadTimes", "BadOrder", "BadNumber", "MOST_JOBS", "MOST_TIME", "first_bad", "need_times", "MOST_BENCHES", "need_benches", "need", "short_sum", "short_lists", "sum_of_lists", "_law_taken", "_law_pick", "_law_alike", "_law_jobs", "_law_order"]
theorem runL (w : World) : HandSHeadRun.RunEq Rw (PySem.W.view Rw.prog [27]) hkL obL 3000 looseL w := by
  intro os
  kernel_rfl
end K19

set_option maxHeartbeats 0
/-! K19Z: the law's end. -/
namespace K19
open PySem PySem.Spec PyProof.Rows L2
theorem fnOf {K : PySem.W.Frag} (c : He.SaysD faL fnL K) {x : Str} {i : Nat} (h : dn x i ∈ fnL) : ∃ fd, FnP K x (topS i) (He.ga K x) fd := c.defs h
theorem lawAt {w : World} {K : PySem.W.Frag} {h : Heap} {mg : Str → Option Value} {f : Addr} (X : K.In h) (G : h.Ns mainGlobals mg) (hfa : mg ("law" : Str) = some (.ref f)) (c : He.SaysX faL fnL [] tfL exL w h K) :
    LamX.LawAtS PySem.Challenge.rw_shoporders_k19_whole_sums_on_machines w K CX0 7 63 "_law_script" mg f h := by
  have cd := c.t.d
  have fr : ∀ {x : Str}, He.Fa.free x ∈ faL → mg x = none := fun hx => He.free_ok X G (cd.facts hx)
  have gl : ∀ {x : Str}, He.Fa.glo x ∈ faL → mg x = some (.ref (He.ga K x)) := fun hx => He.glo_ok X G (cd.facts hx)
  have it : ∀ {x : Str} {i : Int}, He.Fa.int x i ∈ faL → ∃ t, mg x = some (.int i t) := fun hx => He.int_ok X G (cd.facts hx)
  obtain ⟨d1, F1⟩ := fnOf cd (x := "is_integer") (i := 1) (by simp [fnL])
  obtain ⟨d2, F2⟩ := fnOf cd (x := "is_in") (i := 2) (by simp [fnL])
  obtain ⟨d3, F3⟩ := fnOf cd (x := "is_list") (i := 3) (by simp [fnL])
  obtain ⟨d4, F4⟩ := fnOf cd (x := "first_bad") (i := 12) (by simp [fnL])
  obtain ⟨d5, F5⟩ := fnOf cd (x := "need_times") (i := 13) (by simp [fnL])
  obtain ⟨d6, F6⟩ := fnOf cd (x := "need_benches") (i := 16) (by simp [fnL])
  obtain ⟨d7, F7⟩ := fnOf cd (x := "need") (i := 17) (by simp [fnL])
  obtain ⟨dS, FS⟩ := fnOf cd (x := "short_sum") (i := 18) (by simp [fnL])
  obtain ⟨dL, FL⟩ := fnOf cd (x := "short_lists") (i := 19) (by simp [fnL])
  obtain ⟨dQ, FQ⟩ := fnOf cd (x := "sum_of_lists") (i := 20) (by simp [fnL])
  obtain ⟨dT, FT⟩ := fnOf cd (x := "_law_taken") (i := 22) (by simp [fnL])
  obtain ⟨dP, FP⟩ := fnOf cd (x := "_law_pick") (i := 23) (by simp [fnL])
  obtain ⟨dA, FA⟩ := fnOf cd (x := "_law_alike") (i := 24) (by simp [fnL])
  obtain ⟨dJ, FJ⟩ := fnOf cd (x := "_law_jobs") (i := 25) (by simp [fnL])
  obtain ⟨dO, FO⟩ := fnOf cd (x := "_law_order") (i := 26) (by simp [fnL])
  obtain ⟨dW, FW⟩ := fnOf cd (x := "law") (i := 27) (by simp [fnL])
  have mI : mg "int" = none := fr (by simp [faL])
  have mL : mg "len" = none := fr (by simp [faL])
  have mT : mg "tuple" = none := fr (by simp [faL])
  let C1 : Chk K mg := { f1 := _, f2 := _, f3 := _, fd1 := d1, fd2 := d2, fd3 := d3, F1 := F1, F2 := F2, F3 := F3, g1 := gl (by simp [faL]), g2 := gl (by simp [faL]), g3 := gl (by simp [faL]), mi := fr (by simp [faL]), mI := mI, mB := fr (by simp [faL]), mT := mT, mL := mL, mE := fr (by simp [faL]) }
  let C : Chk2 K mg := { C1 with f4 := _, f5 := _, f6 := _, f7 := _, fd4 := d4, fd5 := d5, fd6 := d6, fd7 := d7, F4 := F4, F5 := F5, F6 := F6, F7 := F7, g4 := gl (by simp [faL]), g5 := gl (by simp [faL]), g6 := gl (by simp [faL]), g7 := gl (by simp [faL]), cJ := it (by simp [faL]), cT := it (by simp [faL]), cB := it (by simp [faL]) }
  let T1 : Tk K mg := { f := _, fd := dT, F := FT, g := gl (by simp [faL]), mI := mI, mL := mL }
  let T : Tk2 K mg := { T1 with f2 := _, fd2 := dP, F2 := FP, g2 := gl (by simp [faL]), mR := fr (by simp [faL]), mT := mT, mLi := fr (by simp [faL]), mU := fr (by simp [faL]) }
  let L : LwC K mg := { C := C, T := T, fS := _, fdS := dS, FS := FS, gS := gl (by simp [faL]), fL := _, fdL := dL, FL := FL, gL := gl (by simp [faL]), fQ := _, fdQ := dQ, FQ := FQ, gQ := gl (by simp [faL]), fA := _, fdA := dA, FA := FA, gA := gl (by simp [faL]), fJ := _, fdJ := dJ, FJ := FJ, gJ := gl (by simp [faL]), fO := _, fdO := dO, FO := FO, gO := gl (by simp [faL]), mS := fr (by simp [faL]), mA := fr (by simp [faL]), mStr := fr (by simp [faL]), mM := fr (by simp [faL]) }
  have ef : He.ga K "law" = f := by
    have e := hfa.symm.trans (gl (x := "law") (by simp [faL]))
    injection e with e1
    injection e1 with e2
    exact e2.symm
  rw [ef] at FW
  obtain ⟨co, hco⟩ : ∃ co, dL.code = .ref co := by
    obtain ⟨oc, od, dV, kV, doc, pm, an, cdv, ct, osl, e, lk, hcd, _, _⟩ := FL.ex
    rw [e]
    exact He.codeIn_ref hcd
  have hcT : (He.cT K ("short_lists", none)).1 = co := by
    obtain ⟨oc, od, dV, kV, doc, pm, an, cdv, ct, osl, e, lk, hcd, _, _⟩ := FL.ex
    exact He.codeOf_eq lk hco
  have b := FunD.bindsA (ps := ["_law_script"]) FW fun _ _ _ _ _ _ us hl => match us, hl with | [_], _ => rfl
  refine ⟨dW, [He.cT K ("short_lists", none)], spLaw K (He.cT K ("short_lists", none)).2, ?_, ?_, ?_, fun s v => b s [v] rfl, fun H a ns hl _ hP hS => ⟨a, ns, rfl, hS, hP _ (List.mem_singleton.mpr rfl), fun _ => rfl⟩, fun base _ _ TB => ?_⟩
  · intro p hp
    rw [List.mem_singleton.mp hp]
    exact c.empty _ (List.mem_singleton.mpr rfl)
  · intro p hp
    rw [List.mem_singleton.mp hp]
    exact c.out _ (List.mem_singleton.mpr rfl)
  · intro p hp
    rw [List.mem_singleton.mp hp]
    exact PySem.W.codeHd_of_K X (c.hd _ (List.mem_singleton.mpr rfl))
  · have tb := TB _ (List.mem_singleton.mpr rfl)
    rw [hcT] at tb
    exact ok_law L FW hco tb
end K19
open PySem PySem.W PySem.Calls PyProof.Rows
theorem PySem.Challenge.cw_shoporders_k19_whole_sums_on_machines_holds : PySem.Challenge.rw_shoporders_k19_whole_sums_on_machines.Holds := by
  w_on; o_law
  refine HandSHeadRun.head_any (r := OpenLaw.row PySem.Challenge.rw_shoporders_k19_whole_sums_on_machines) (q := view (OpenLaw.row PySem.Challenge.rw_shoporders_k19_whole_sums_on_machines).prog [27]) (H := K19.hkL) (ob := K19.obL) (M := 3000) (loose := K19.looseL) (d := HandSHeadRun.topDef (OpenLaw.row PySem.Challenge.rw_shoporders_k19_whole_sums_on_machines).prog 27) (kwd := []) K19.obL_eq
    (by kernel_rfl) (fun s => by kernel_rfl) K19.runL (by kernel_rfl) (by kernel_rfl) (by kernel_rfl) (by rfl) (by first | assumption | decide +kernel) (by decide +kernel) ⟨rfl, rfl, rfl, rfl, rfl, by decide +kernel⟩ ?hw ?hc
  case hw => w_witness2
  case hc =>
    refine LamX.walk_ofTsE (l := PySem.Challenge.rw_shoporders_k19_whole_sums_on_machines) (n := 63) (k := 7) (x := "_law_script") (CX := fun _ => L2.CX0) rfl (by decide) (by kernel_rfl) ⟨rfl, by decide, by decide⟩ ?F (fun _ _ _ _ _ z => z)
    intro w mg fa h Y G hmg0
    obtain ⟨K, KX, c⟩ := Y
    have hmg : mg ("law" : PySem.Str) = some (.ref fa) := by
      have e : (HandSHeadRun.topDef (OpenLaw.row PySem.Challenge.rw_shoporders_k19_whole_sums_on_machines).prog 27).name = ("law" : PySem.Str) := by kernel_rfl
      rw [← e]
      exact hmg0
    exact ⟨K, KX, K19.lawAt KX G hmg c⟩
